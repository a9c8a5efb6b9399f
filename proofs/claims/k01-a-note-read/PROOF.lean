import PyProof.Rows.All
import HandS.ForMost
import HandS.ForExc
import HandS.WideBits
import HandS.Wide
import HandS.TupAny
import HandS.IsInst
import HandS.Style
import HandS.RevRange
import HandS.Zip
import HandS.TryOnly
import HandS.ExcOwn
import HandS.ExcIs
import KE.GoesEnum
import HandS.HotCalls
import PySem.Challenge.RW_countgen_k01_a_note_read
set_option Elab.async false
set_option linter.all false
set_option maxRecDepth 100000
set_option autoImplicit false
/-! F1: data without addresses, what stands for it in a heap, slots of a frame, and the lift of a function over data to a reading. -/
namespace Fs
open PySem L2

inductive D where
  | non | bl (b : Bool) | int (i : Int) | str (x : Str) | tup (xs : List D) | lst (xs : List D) | fn (a : Addr) | dct (ks : List Key) (ds : List D)
  deriving Inhabited

mutual
inductive Rep (K : PySem.W.Frag) (G : Hp) : D → V → Prop
  | non : Rep K G .non .non
  | bl (b : Bool) : Rep K G (.bl b) (.bl b)
  | int (i : Int) : Rep K G (.int i) (.int i)
  | str (x : Str) : Rep K G (.str x) (.str x)
  | fn (a : Addr) : Rep K G (.fn a) (.ref a)
  | tup {a : Addr} {vs : List V} {ds : List D} : SqT K G a vs → RepL K G ds vs → Rep K G (.tup ds) (.ref a)
  | lst {a : Addr} {vs : List V} {ds : List D} : SqL K G a vs → RepL K G ds vs → Rep K G (.lst ds) (.ref a)
  | dct {a : Addr} {vs : List V} {ks : List Key} {ds : List D} : G a = some (.dK (ks.zip vs)) → ks.length = ds.length → RepL K G ds vs → Rep K G (.dct ks ds) (.ref a)
inductive RepL (K : PySem.W.Frag) (G : Hp) : List D → List V → Prop
  | nil : RepL K G [] []
  | cons {d : D} {v : V} {ds : List D} {vs : List V} : Rep K G d v → RepL K G ds vs → RepL K G (d :: ds) (v :: vs)
end

theorem rd_mono {G G' : Hp} {a : Addr} {u : HO} (e : Same G G') (h : Rd G a u) : Rd G' a u := by
  rcases h with h | ⟨o, h⟩
  · exact .inl (e _ _ h)
  · exact .inr ⟨o, e _ _ h⟩
theorem sqt_mono {K : PySem.W.Frag} {G G' : Hp} {a : Addr} {xs : List V} (e : Same G G') (h : SqT K G a xs) : SqT K G' a xs := by
  rcases h with h | h
  · exact .inl (rd_mono e h)
  · exact .inr h
mutual
theorem Rep.mono {K : PySem.W.Frag} {G G' : Hp} (e : Same G G') : ∀ {d : D} {v : V}, Rep K G d v → Rep K G' d v
  | _, _, .non => .non
  | _, _, .bl b => .bl b
  | _, _, .int i => .int i
  | _, _, .str x => .str x
  | _, _, .fn a => .fn a
  | _, _, .tup h r => .tup (sqt_mono e h) (RepL.mono e r)
  | _, _, .lst h r => .lst (e.seq h) (RepL.mono e r)
  | _, _, .dct h l r => .dct (e _ _ h) l (RepL.mono e r)
theorem RepL.mono {K : PySem.W.Frag} {G G' : Hp} (e : Same G G') : ∀ {ds : List D} {vs : List V}, RepL K G ds vs → RepL K G' ds vs
  | _, _, .nil => .nil
  | _, _, .cons h r => .cons (Rep.mono e h) (RepL.mono e r)
end
section
variable {K : PySem.W.Frag} {G G' : Hp}
theorem RepL.length : ∀ {ds : List D} {vs : List V}, RepL K G ds vs → ds.length = vs.length
  | _, _, .nil => rfl
  | _, _, .cons _ r => by simp [RepL.length r]
theorem RepL.get : ∀ {ds : List D} {vs : List V} {i : Nat} {d : D}, RepL K G ds vs → ds[i]? = some d → ∃ v, vs[i]? = some v ∧ Rep K G d v
  | _, _, 0, _, .cons h _, e => by simp at e; subst e; exact ⟨_, rfl, h⟩
  | _, _, i + 1, d, .cons _ r, e => by
    obtain ⟨v, h1, h2⟩ := RepL.get (i := i) (d := d) r (by simpa using e)
    exact ⟨v, by simpa using h1, h2⟩
theorem RepL.getV : ∀ {ds : List D} {vs : List V} {i : Nat} {v : V}, RepL K G ds vs → vs[i]? = some v → ∃ d, ds[i]? = some d ∧ Rep K G d v
  | _, _, 0, _, .cons h _, e => by simp at e; subst e; exact ⟨_, rfl, h⟩
  | _, _, i + 1, v, .cons _ r, e => by
    obtain ⟨d, h1, h2⟩ := RepL.getV (i := i) (v := v) r (by simpa using e)
    exact ⟨d, by simpa using h1, h2⟩
theorem RepL.append : ∀ {ds es : List D} {vs us : List V}, RepL K G ds vs → RepL K G es us → RepL K G (ds ++ es) (vs ++ us)
  | _, _, _, _, .nil, s => s
  | _, _, _, _, .cons h r, s => .cons h (RepL.append r s)
theorem RepL.one {d : D} {v : V} (h : Rep K G d v) : RepL K G [d] [v] := .cons h .nil
theorem RepL.set : ∀ {ds : List D} {vs : List V} {d : D} {v : V} (i : Nat), RepL K G ds vs → Rep K G d v → RepL K G (ds.set i d) (vs.set i v)
  | _, _, _, _, _, .nil, _ => .nil
  | _, _, _, _, 0, .cons _ r, h => .cons h r
  | _, _, _, _, i + 1, .cons q r, h => .cons q (RepL.set i r h)
theorem RepL.take : ∀ {ds : List D} {vs : List V} (n : Nat), RepL K G ds vs → RepL K G (ds.take n) (vs.take n)
  | _, _, 0, _ => .nil
  | _, _, _ + 1, .nil => .nil
  | _, _, n + 1, .cons h r => .cons h (RepL.take n r)
theorem RepL.drop : ∀ {ds : List D} {vs : List V} (n : Nat), RepL K G ds vs → RepL K G (ds.drop n) (vs.drop n)
  | _, _, 0, r => r
  | _, _, _ + 1, .nil => .nil
  | _, _, n + 1, .cons _ r => RepL.drop n r
theorem RepL.reverse : ∀ {ds : List D} {vs : List V}, RepL K G ds vs → RepL K G ds.reverse vs.reverse
  | _, _, .nil => .nil
  | _, _, .cons h r => by
    rw [List.reverse_cons, List.reverse_cons]
    exact RepL.append (RepL.reverse r) (RepL.one h)
theorem RepL.ints : ∀ ns : List Int, RepL K G (ns.map D.int) (ns.map V.int)
  | [] => .nil
  | n :: r => .cons (.int n) (RepL.ints r)
theorem RepL.of_ints : ∀ {ns : List Int} {vs : List V}, RepL K G (ns.map D.int) vs → vs = ns.map V.int
  | [], _, .nil => rfl
  | _ :: _, _, .cons (.int _) r => by rw [RepL.of_ints r]; rfl
theorem RepL.of_bls : ∀ {bs : List Bool} {vs : List V}, RepL K G (bs.map D.bl) vs → vs = bs.map V.bl
  | [], _, .nil => rfl
  | _ :: _, _, .cons (.bl _) r => by rw [RepL.of_bls r]; rfl
theorem RepL.of_strs : ∀ {bs : List Str} {vs : List V}, RepL K G (bs.map D.str) vs → vs = bs.map V.str
  | [], _, .nil => rfl
  | _ :: _, _, .cons (.str _) r => by rw [RepL.of_strs r]; rfl
end

/-- a step: what was frozen is so still, what was tracked stands, what is newly frozen was not tracked -/
structure Stp (G H G' H' : Hp) : Prop where
  g : Same G G'
  h : Same H H'
  sub : Same G' H'
  nw : ∀ a, G' a ≠ none → G a ≠ none ∨ H a = none
theorem Stp.refl {G H : Hp} (s : Same G H) : Stp G H G H := ⟨Same.refl _, Same.refl _, s, fun _ h => .inl h⟩
theorem Stp.trans {G H G1 H1 G2 H2 : Hp} (a : Stp G H G1 H1) (b : Stp G1 H1 G2 H2) : Stp G H G2 H2 :=
  ⟨a.g.trans b.g, a.h.trans b.h, b.sub, fun c hc => (b.nw c hc).elim (a.nw c) fun z => .inr (a.h.free z)⟩
theorem same_new {H : Hp} {p : Addr} (h : H p = none) (o : HO) : Same H (upd H p o) := fun b u q => by rw [upd_ne (ne_of_none q h)]; exact q
theorem same_upd {G H : Hp} {p : Addr} {o : HO} (s : Same G H) : Same (upd G p o) (upd H p o) := fun b u q => by
  unfold upd at *
  by_cases e : b = p
  · rw [if_pos e] at q ⊢
    exact q
  · rw [if_neg e] at q ⊢
    exact s _ _ q
/-- a new object, frozen at once -/
theorem Stp.new {G H : Hp} {p : Addr} (s : Same G H) (h : H p = none) (o : HO) : Stp G H (upd G p o) (upd H p o) :=
  ⟨same_new (s.free h) o, same_new h o, same_upd s, fun a ha => by
    by_cases e : a = p
    · exact .inr (e ▸ h)
    · rw [upd_ne e] at ha
      exact .inl ha⟩
/-- a new object, not frozen -/
theorem Stp.newH {G H : Hp} {p : Addr} (s : Same G H) (h : H p = none) (o : HO) : Stp G H G (upd H p o) :=
  ⟨Same.refl _, same_new h o, s.trans (same_new h o), fun _ ha => .inl ha⟩

inductive Slot where
  | un | v (d : D) | own (xs : List D) | bor (xs : List D)
  deriving Inhabited
abbrev Sl := List Slot
def Slot.isOwn : Slot → Bool
  | .own _ => true
  | .bor _ => true
  | _ => false
def SlotRel (K : PySem.W.Frag) (H0 : Hp) (bp : Option Addr) (G H : Hp) (x : Option V) : Slot → Prop
  | .un => True
  | .v d => ∃ v, x = some v ∧ Rep K G d v
  | .own xs => ∃ p vs, x = some (.ref p) ∧ H0 p = none ∧ G p = none ∧ H p = some (.lst vs) ∧ RepL K G xs vs
  | .bor xs => ∃ p vs, bp = some p ∧ x = some (.ref p) ∧ H0 p = none ∧ G p = none ∧ H p = some (.lst vs) ∧ RepL K G xs vs

structure Ex where
  cls : String
  fs : List (Str × D)
inductive R (α : Type) where
  | ok (a : α) | exc (e : Ex) | stk
def R.bind {α β : Type} (r : R α) (k : α → R β) : R β := match r with
  | .ok a => k a
  | .exc e => .exc e
  | .stk => .stk
def R.ofO {α : Type} : Option α → R α
  | some a => .ok a
  | none => .stk

/-- what is fixed through a body: the heaps at its entry, the classes' addresses, what is wanted of an exception -/
structure Cc where
  G0 : Hp
  H0 : Hp
  ct : String → Addr
  W : WX
  /-- the list that was handed in to be changed -/
  bor : Option Addr

inductive RepF (K : PySem.W.Frag) (G : Hp) : List (Str × D) → List (Str × V) → Prop
  | nil : RepF K G [] []
  | cons {x : Str} {d : D} {v : V} {ds : List (Str × D)} {vs : List (Str × V)} : Rep K G d v → RepF K G ds vs → RepF K G ((x, d) :: ds) ((x, v) :: vs)
/-- an exception's class and own dict -/
def RepX (K : PySem.W.Frag) (ct : String → Addr) (G H : Hp) (e : Ex) (cls : Value) (dd : Option Addr) : Prop :=
  cls = .ref (ct e.cls) ∧ ((e.fs = [] ∧ dd = none) ∨ (e.fs ≠ [] ∧ ∃ d fs, dd = some d ∧ H d = some (.xd fs) ∧ G d = none ∧ RepF K G e.fs fs))

structure RE (K : PySem.W.Frag) (C : Cc) (σ : L2.St) (δ : Sl) (G H : Hp) : Prop where
  st : Stp C.G0 C.H0 G H
  len : σ.length = δ.length
  sl : ∀ (i : Nat) (s : Slot), δ[i]? = some s → SlotRel K C.H0 C.bor G H (σ[i]?.join) s
  sep : ∀ (i j : Nat) (s t : Slot) (p : Addr), i ≠ j → δ[i]? = some s → δ[j]? = some t → s.isOwn = true → t.isOwn = true → σ[i]? = some (some (.ref p)) → σ[j]? = some (some (.ref p)) → False

theorem SlotRel.step {K : PySem.W.Frag} {H0 G H G' H' : Hp} {bp : Option Addr} {x : Option V} {s : Slot} (t : Stp G H G' H') (h : SlotRel K H0 bp G H x s) : SlotRel K H0 bp G' H' x s := by
  cases s with
  | un => trivial
  | v d => obtain ⟨v, e, r⟩ := h; exact ⟨v, e, r.mono t.g⟩
  | own xs =>
    obtain ⟨p, vs, e, h0, hg, hh, r⟩ := h
    refine ⟨p, vs, e, h0, ?_, t.h _ _ hh, r.mono t.g⟩
    cases q : G' p with
    | none => rfl
    | some o =>
      rcases t.nw p (by rw [q]; exact fun z => nomatch z) with z | z
      · exact absurd hg z
      · rw [hh] at z; cases z
  | bor xs =>
    obtain ⟨p, vs, b, e, h0, hg, hh, r⟩ := h
    refine ⟨p, vs, b, e, h0, ?_, t.h _ _ hh, r.mono t.g⟩
    cases q : G' p with
    | none => rfl
    | some o =>
      rcases t.nw p (by rw [q]; exact fun z => nomatch z) with z | z
      · exact absurd hg z
      · rw [hh] at z; cases z
theorem RE.step {K : PySem.W.Frag} {C : Cc} {σ : L2.St} {δ : Sl} {G H G' H' : Hp} (r : RE K C σ δ G H) (t : Stp G H G' H') : RE K C σ δ G' H' :=
  ⟨r.st.trans t, r.len, fun i s h => (r.sl i s h).step t, r.sep⟩
theorem RE.sub {K : PySem.W.Frag} {C : Cc} {σ : L2.St} {δ : Sl} {G H : Hp} (r : RE K C σ δ G H) : Same G H := r.st.sub
theorem RE.val {K : PySem.W.Frag} {C : Cc} {σ : L2.St} {δ : Sl} {G H : Hp} {i : Nat} {d : D} (r : RE K C σ δ G H) (h : δ[i]? = some (.v d)) : ∃ v, σ[i]? = some (some v) ∧ Rep K G d v := by
  obtain ⟨v, e, q⟩ := r.sl i _ h
  refine ⟨v, ?_, q⟩
  cases z : σ[i]? with
  | none => rw [z] at e; cases e
  | some o => rw [z] at e; exact congrArg some e
theorem RE.ownd {K : PySem.W.Frag} {C : Cc} {σ : L2.St} {δ : Sl} {G H : Hp} {i : Nat} {xs : List D} (r : RE K C σ δ G H) (h : δ[i]? = some (.own xs)) :
    ∃ p vs, σ[i]? = some (some (.ref p)) ∧ C.H0 p = none ∧ G p = none ∧ H p = some (.lst vs) ∧ RepL K G xs vs := by
  obtain ⟨p, vs, e, q⟩ := r.sl i _ h
  refine ⟨p, vs, ?_, q⟩
  cases z : σ[i]? with
  | none => rw [z] at e; cases e
  | some o => rw [z] at e; exact congrArg some e
theorem RE.bord {K : PySem.W.Frag} {C : Cc} {σ : L2.St} {δ : Sl} {G H : Hp} {i : Nat} {xs : List D} (r : RE K C σ δ G H) (h : δ[i]? = some (.bor xs)) :
    ∃ p vs, C.bor = some p ∧ σ[i]? = some (some (.ref p)) ∧ C.H0 p = none ∧ G p = none ∧ H p = some (.lst vs) ∧ RepL K G xs vs := by
  obtain ⟨p, vs, b, e, q⟩ := r.sl i _ h
  refine ⟨p, vs, b, ?_, q⟩
  cases z : σ[i]? with
  | none => rw [z] at e; cases e
  | some o => rw [z] at e; exact congrArg some e
/-- a value is stored -/
theorem RE.setV {K : PySem.W.Frag} {C : Cc} {σ : L2.St} {δ : Sl} {G H : Hp} {d : D} {v : V} (r : RE K C σ δ G H) (i : Nat) (h : Rep K G d v) : RE K C (σ.set i (some v)) (δ.set i (.v d)) G H := by
  refine ⟨r.st, by simp [r.len], fun j s hs => ?_, fun j k s t p hjk hs ht os ot => ?_⟩
  · by_cases e : i = j
    · subst e
      have hi : i < δ.length := by
        cases q : (δ.set i (Slot.v d))[i]? with
        | none => rw [q] at hs; cases hs
        | some _ =>
          have := (List.getElem?_eq_some_iff.mp q).1
          simpa using this
      rw [List.getElem?_set_self hi] at hs
      cases hs
      have hi2 : i < σ.length := by rw [r.len]; exact hi
      rw [List.getElem?_set_self hi2]
      exact ⟨v, rfl, h⟩
    · rw [List.getElem?_set_ne e] at hs
      rw [List.getElem?_set_ne e]
      exact r.sl j s hs
  · have nj : ∀ {j : Nat} {s : Slot}, (δ.set i (Slot.v d))[j]? = some s → s.isOwn = true → i ≠ j := fun {j s} hs os e => by
      subst e
      have hi : i < δ.length := by
        have := (List.getElem?_eq_some_iff.mp hs).1
        simpa using this
      rw [List.getElem?_set_self hi] at hs
      cases hs
      cases os
    have e1 := nj hs os
    have e2 := nj ht ot
    rw [List.getElem?_set_ne e1] at hs
    rw [List.getElem?_set_ne e2] at ht
    rw [List.getElem?_set_ne e1, List.getElem?_set_ne e2]
    exact r.sep j k s t p hjk hs ht os ot
/-- a new list of the frame's own is stored -/
theorem RE.setO {K : PySem.W.Frag} {C : Cc} {σ : L2.St} {δ : Sl} {G H : Hp} {xs : List D} {vs : List V} {p : Addr} (r : RE K C σ δ G H) (i : Nat) (h0 : C.H0 p = none) (hg : G p = none) (hh : H p = some (.lst vs)) (h : RepL K G xs vs)
    (hn : ∀ (j : Nat) (s : Slot), j ≠ i → δ[j]? = some s → s.isOwn = true → σ[j]? ≠ some (some (.ref p))) : RE K C (σ.set i (some (.ref p))) (δ.set i (.own xs)) G H := by
  have inb : ∀ {j : Nat} {s : Slot}, (δ.set i (Slot.own xs))[j]? = some s → j < δ.length := fun {j s} hs => by
    have := (List.getElem?_eq_some_iff.mp hs).1
    simpa using this
  refine ⟨r.st, by simp [r.len], fun j s hs => ?_, fun j k s t q hjk hs ht os ot hj hk => ?_⟩
  · by_cases e : i = j
    · subst e
      have hi := inb hs
      rw [List.getElem?_set_self hi] at hs
      cases hs
      have hi2 : i < σ.length := by rw [r.len]; exact hi
      rw [List.getElem?_set_self hi2]
      exact ⟨p, vs, rfl, h0, hg, hh, h⟩
    · rw [List.getElem?_set_ne e] at hs
      rw [List.getElem?_set_ne e]
      exact r.sl j s hs
  · by_cases e1 : i = j
    · subst e1
      have hi2 : i < σ.length := by rw [r.len]; exact inb hs
      rw [List.getElem?_set_self hi2] at hj
      cases hj
      rw [List.getElem?_set_ne hjk] at ht hk
      exact hn k t (Ne.symm hjk) ht ot hk
    · rw [List.getElem?_set_ne e1] at hs hj
      by_cases e2 : i = k
      · subst e2
        have hi2 : i < σ.length := by rw [r.len]; exact inb ht
        rw [List.getElem?_set_self hi2] at hk
        cases hk
        exact hn j s (Ne.symm e1) hs os hj
      · rw [List.getElem?_set_ne e2] at ht hk
        exact r.sep j k s t q hjk hs ht os ot hj hk
/-- the frame's own list at slot i is changed -/
theorem RE.mutO {K : PySem.W.Frag} {C : Cc} {σ : L2.St} {δ : Sl} {G H : Hp} {xs ys : List D} {us : List V} {p : Addr} (r : RE K C σ δ G H) (i : Nat) (hi : δ[i]? = some (.own xs)) (hp : σ[i]? = some (some (.ref p))) (h : RepL K G ys us) :
    RE K C σ (δ.set i (.own ys)) G (upd H p (.lst us)) := by
  obtain ⟨p', vs, e, h0, hg, hh, _⟩ := r.ownd hi
  rw [hp] at e
  cases e
  have il : i < δ.length := (List.getElem?_eq_some_iff.mp hi).1
  refine ⟨⟨r.st.g, fun a o ho => ?_, fun a o ho => ?_, r.st.nw⟩, by simp [r.len], fun j s hs => ?_, fun j k s t q hjk hs ht os ot hj hk => ?_⟩
  · rw [upd_ne (ne_of_none ho h0)]
    exact r.st.h _ _ ho
  · rw [upd_ne (ne_of_none ho hg)]
    exact r.st.sub _ _ ho
  · by_cases e : i = j
    · subst e
      rw [List.getElem?_set_self il] at hs
      cases hs
      rw [hp]
      exact ⟨p, us, rfl, h0, hg, upd_same, h⟩
    · rw [List.getElem?_set_ne e] at hs
      have z := r.sl j s hs
      cases s with
      | un => trivial
      | v d => exact z
      | own zs =>
        obtain ⟨p2, vs2, e2, h02, hg2, hh2, r2⟩ := z
        refine ⟨p2, vs2, e2, h02, hg2, ?_, r2⟩
        rw [upd_ne]
        · exact hh2
        · intro ee
          subst ee
          have hj : σ[j]? = some (some (.ref p2)) := by
            cases z : σ[j]? with
            | none => rw [z] at e2; cases e2
            | some o => rw [z] at e2; exact congrArg some e2
          exact r.sep i j _ _ p2 e hi hs rfl rfl hp hj
      | bor zs =>
        obtain ⟨p2, vs2, b2, e2, h02, hg2, hh2, r2⟩ := z
        refine ⟨p2, vs2, b2, e2, h02, hg2, ?_, r2⟩
        rw [upd_ne]
        · exact hh2
        · intro ee
          subst ee
          have hj : σ[j]? = some (some (.ref p2)) := by
            cases z : σ[j]? with
            | none => rw [z] at e2; cases e2
            | some o => rw [z] at e2; exact congrArg some e2
          exact r.sep i j _ _ p2 e hi hs rfl rfl hp hj
  · have gt : ∀ {j : Nat} {s : Slot}, (δ.set i (Slot.own ys))[j]? = some s → s.isOwn = true → ∃ s', δ[j]? = some s' ∧ s'.isOwn = true := fun {j s} hs os => by
      by_cases e : i = j
      · subst e
        exact ⟨_, hi, rfl⟩
      · rw [List.getElem?_set_ne e] at hs
        exact ⟨s, hs, os⟩
    obtain ⟨s', hs', os'⟩ := gt hs os
    obtain ⟨t', ht', ot'⟩ := gt ht ot
    exact r.sep j k s' t' q hjk hs' ht' os' ot' hj hk
/-- the frame's own list at slot i is frozen -/
theorem RE.frz {K : PySem.W.Frag} {C : Cc} {σ : L2.St} {δ : Sl} {G H : Hp} {xs : List D} (r : RE K C σ δ G H) (i : Nat) (hi : δ[i]? = some (.own xs)) :
    ∃ p vs, σ[i]? = some (some (.ref p)) ∧ C.H0 p = none ∧ G p = none ∧ H p = some (.lst vs) ∧ RE K C σ (δ.set i (.v (.lst xs))) (upd G p (.lst vs)) H := by
  obtain ⟨p, vs, hp, h0, hg, hh, rl⟩ := r.ownd hi
  have il : i < δ.length := (List.getElem?_eq_some_iff.mp hi).1
  have sg : Same G (upd G p (.lst vs)) := same_new hg _
  refine ⟨p, vs, hp, h0, hg, hh, ⟨r.st.g.trans sg, r.st.h, fun a o ho => ?_, fun a ha => ?_⟩, by simp [r.len], fun j s hs => ?_, fun j k s t q hjk hs ht os ot hj hk => ?_⟩
  · by_cases e : a = p
    · subst e
      rw [upd_same] at ho
      cases ho
      exact hh
    · rw [upd_ne e] at ho
      exact r.st.sub _ _ ho
  · by_cases e : a = p
    · exact .inr (e ▸ h0)
    · rw [upd_ne e] at ha
      exact r.st.nw a ha
  · by_cases e : i = j
    · subst e
      rw [List.getElem?_set_self il] at hs
      cases hs
      rw [hp]
      exact ⟨.ref p, rfl, .lst (SqL.of upd_same) (rl.mono sg)⟩
    · rw [List.getElem?_set_ne e] at hs
      have z := r.sl j s hs
      cases s with
      | un => trivial
      | v d => obtain ⟨v, e, q⟩ := z; exact ⟨v, e, q.mono sg⟩
      | own zs =>
        obtain ⟨p2, vs2, e2, h02, hg2, hh2, r2⟩ := z
        refine ⟨p2, vs2, e2, h02, ?_, hh2, r2.mono sg⟩
        rw [upd_ne]
        · exact hg2
        · intro ee
          subst ee
          have hj : σ[j]? = some (some (.ref p2)) := by
            cases z : σ[j]? with
            | none => rw [z] at e2; cases e2
            | some o => rw [z] at e2; exact congrArg some e2
          exact r.sep i j _ _ p2 e hi hs rfl rfl hp hj
      | bor zs =>
        obtain ⟨p2, vs2, b2, e2, h02, hg2, hh2, r2⟩ := z
        refine ⟨p2, vs2, b2, e2, h02, ?_, hh2, r2.mono sg⟩
        rw [upd_ne]
        · exact hg2
        · intro ee
          subst ee
          have hj : σ[j]? = some (some (.ref p2)) := by
            cases z : σ[j]? with
            | none => rw [z] at e2; cases e2
            | some o => rw [z] at e2; exact congrArg some e2
          exact r.sep i j _ _ p2 e hi hs rfl rfl hp hj
  · have nj : ∀ {j : Nat} {s : Slot}, (δ.set i (Slot.v (.lst xs)))[j]? = some s → s.isOwn = true → i ≠ j := fun {j s} hs os e => by
      subst e
      rw [List.getElem?_set_self il] at hs
      cases hs
      cases os
    have e1 := nj hs os
    have e2 := nj ht ot
    rw [List.getElem?_set_ne e1] at hs
    rw [List.getElem?_set_ne e2] at ht
    exact r.sep j k s t q hjk hs ht os ot hj hk
/-- the frame's own list at slot i is changed -/
theorem RE.mutB {K : PySem.W.Frag} {C : Cc} {σ : L2.St} {δ : Sl} {G H : Hp} {xs ys : List D} {us : List V} {p : Addr} (r : RE K C σ δ G H) (i : Nat) (hi : δ[i]? = some (.bor xs)) (hp : σ[i]? = some (some (.ref p))) (h : RepL K G ys us) :
    RE K C σ (δ.set i (.bor ys)) G (upd H p (.lst us)) := by
  obtain ⟨p', vs, hb, e, h0, hg, hh, _⟩ := r.bord hi
  rw [hp] at e
  cases e
  have il : i < δ.length := (List.getElem?_eq_some_iff.mp hi).1
  refine ⟨⟨r.st.g, fun a o ho => ?_, fun a o ho => ?_, r.st.nw⟩, by simp [r.len], fun j s hs => ?_, fun j k s t q hjk hs ht os ot hj hk => ?_⟩
  · rw [upd_ne (ne_of_none ho h0)]
    exact r.st.h _ _ ho
  · rw [upd_ne (ne_of_none ho hg)]
    exact r.st.sub _ _ ho
  · by_cases e : i = j
    · subst e
      rw [List.getElem?_set_self il] at hs
      cases hs
      rw [hp]
      exact ⟨p, us, hb, rfl, h0, hg, upd_same, h⟩
    · rw [List.getElem?_set_ne e] at hs
      have z := r.sl j s hs
      cases s with
      | un => trivial
      | v d => exact z
      | own zs =>
        obtain ⟨p2, vs2, e2, h02, hg2, hh2, r2⟩ := z
        refine ⟨p2, vs2, e2, h02, hg2, ?_, r2⟩
        rw [upd_ne]
        · exact hh2
        · intro ee
          subst ee
          have hj : σ[j]? = some (some (.ref p2)) := by
            cases z : σ[j]? with
            | none => rw [z] at e2; cases e2
            | some o => rw [z] at e2; exact congrArg some e2
          exact r.sep i j _ _ p2 e hi hs rfl rfl hp hj
      | bor zs =>
        obtain ⟨p2, vs2, b2, e2, h02, hg2, hh2, r2⟩ := z
        refine ⟨p2, vs2, b2, e2, h02, hg2, ?_, r2⟩
        rw [upd_ne]
        · exact hh2
        · intro ee
          subst ee
          have hj : σ[j]? = some (some (.ref p2)) := by
            cases z : σ[j]? with
            | none => rw [z] at e2; cases e2
            | some o => rw [z] at e2; exact congrArg some e2
          exact r.sep i j _ _ p2 e hi hs rfl rfl hp hj
  · have gt : ∀ {j : Nat} {s : Slot}, (δ.set i (Slot.bor ys))[j]? = some s → s.isOwn = true → ∃ s', δ[j]? = some s' ∧ s'.isOwn = true := fun {j s} hs os => by
      by_cases e : i = j
      · subst e
        exact ⟨_, hi, rfl⟩
      · rw [List.getElem?_set_ne e] at hs
        exact ⟨s, hs, os⟩
    obtain ⟨s', hs', os'⟩ := gt hs os
    obtain ⟨t', ht', ot'⟩ := gt ht ot
    exact r.sep j k s' t' q hjk hs' ht' os' ot' hj hk
/-- the frame's own list at slot i is frozen -/
theorem RE.frzB {K : PySem.W.Frag} {C : Cc} {σ : L2.St} {δ : Sl} {G H : Hp} {xs : List D} (r : RE K C σ δ G H) (i : Nat) (hi : δ[i]? = some (.bor xs)) :
    ∃ p vs, σ[i]? = some (some (.ref p)) ∧ C.H0 p = none ∧ G p = none ∧ H p = some (.lst vs) ∧ RE K C σ (δ.set i (.v (.lst xs))) (upd G p (.lst vs)) H := by
  obtain ⟨p, vs, _, hp, h0, hg, hh, rl⟩ := r.bord hi
  have il : i < δ.length := (List.getElem?_eq_some_iff.mp hi).1
  have sg : Same G (upd G p (.lst vs)) := same_new hg _
  refine ⟨p, vs, hp, h0, hg, hh, ⟨r.st.g.trans sg, r.st.h, fun a o ho => ?_, fun a ha => ?_⟩, by simp [r.len], fun j s hs => ?_, fun j k s t q hjk hs ht os ot hj hk => ?_⟩
  · by_cases e : a = p
    · subst e
      rw [upd_same] at ho
      cases ho
      exact hh
    · rw [upd_ne e] at ho
      exact r.st.sub _ _ ho
  · by_cases e : a = p
    · exact .inr (e ▸ h0)
    · rw [upd_ne e] at ha
      exact r.st.nw a ha
  · by_cases e : i = j
    · subst e
      rw [List.getElem?_set_self il] at hs
      cases hs
      rw [hp]
      exact ⟨.ref p, rfl, .lst (SqL.of upd_same) (rl.mono sg)⟩
    · rw [List.getElem?_set_ne e] at hs
      have z := r.sl j s hs
      cases s with
      | un => trivial
      | v d => obtain ⟨v, e, q⟩ := z; exact ⟨v, e, q.mono sg⟩
      | own zs =>
        obtain ⟨p2, vs2, e2, h02, hg2, hh2, r2⟩ := z
        refine ⟨p2, vs2, e2, h02, ?_, hh2, r2.mono sg⟩
        rw [upd_ne]
        · exact hg2
        · intro ee
          subst ee
          have hj : σ[j]? = some (some (.ref p2)) := by
            cases z : σ[j]? with
            | none => rw [z] at e2; cases e2
            | some o => rw [z] at e2; exact congrArg some e2
          exact r.sep i j _ _ p2 e hi hs rfl rfl hp hj
      | bor zs =>
        obtain ⟨p2, vs2, b2, e2, h02, hg2, hh2, r2⟩ := z
        refine ⟨p2, vs2, b2, e2, h02, ?_, hh2, r2.mono sg⟩
        rw [upd_ne]
        · exact hg2
        · intro ee
          subst ee
          have hj : σ[j]? = some (some (.ref p2)) := by
            cases z : σ[j]? with
            | none => rw [z] at e2; cases e2
            | some o => rw [z] at e2; exact congrArg some e2
          exact r.sep i j _ _ p2 e hi hs rfl rfl hp hj
  · have nj : ∀ {j : Nat} {s : Slot}, (δ.set i (Slot.v (.lst xs)))[j]? = some s → s.isOwn = true → i ≠ j := fun {j s} hs os e => by
      subst e
      rw [List.getElem?_set_self il] at hs
      cases hs
      cases os
    have e1 := nj hs os
    have e2 := nj ht ot
    rw [List.getElem?_set_ne e1] at hs
    rw [List.getElem?_set_ne e2] at ht
    exact r.sep j k s t q hjk hs ht os ot hj hk
end Fs

/-! F2: expressions, tests, arguments. -/
namespace Fs
open PySem L2

abbrev E := Sl → R D
abbrev T := Sl → R Bool
abbrev As := Sl → R (List D)

/-- an exception's way -/
def onX (K : PySem.W.Frag) (C : Cc) (σ : L2.St) (G H : Hp) (e : Ex) : Prop := ∀ cls dd G' H', Stp G H G' H' → RepX K C.ct G' H' e cls dd → C.W cls dd σ H'
def onR (K : PySem.W.Frag) (C : Cc) (σ : L2.St) (G H : Hp) (r : R D) (P : D → V → Hp → Hp → Prop) : Prop := match r with
  | .ok d => ∀ v G' H', Stp G H G' H' → Rep K G' d v → P d v G' H'
  | .exc e => onX K C σ G H e
  | .stk => False
def onB (K : PySem.W.Frag) (C : Cc) (σ : L2.St) (G H : Hp) (r : R Bool) (P : Bool → Hp → Hp → Prop) : Prop := match r with
  | .ok b => ∀ G' H', Stp G H G' H' → P b G' H'
  | .exc e => onX K C σ G H e
  | .stk => False
def onA (K : PySem.W.Frag) (C : Cc) (σ : L2.St) (G H : Hp) (r : R (List D)) (P : List D → List V → Hp → Hp → Prop) : Prop := match r with
  | .ok ds => ∀ vs G' H', Stp G H G' H' → RepL K G' ds vs → P ds vs G' H'
  | .exc e => onX K C σ G H e
  | .stk => False

def liftE (K : PySem.W.Frag) (C : Cc) (f : E) : TE := fun σ H Q => ∃ δ G, RE K C σ δ G H ∧ onR K C σ G H (f δ) fun _ v _ H' => Q v H'
def liftT (K : PySem.W.Frag) (C : Cc) (f : T) : TT := fun σ H Q => ∃ δ G, RE K C σ δ G H ∧ onB K C σ G H (f δ) fun b _ H' => Q b H'
def liftA (K : PySem.W.Frag) (C : Cc) (f : As) : TA := fun σ H Q => ∃ δ G, RE K C σ δ G H ∧ onA K C σ G H (f δ) fun _ vs _ H' => Q vs H'
abbrev SE (X : Cx) (C : Cc) (e : Expr) (f : E) : Prop := PE X e (liftE X.K C f)
abbrev ST (X : Cx) (C : Cc) (e : Expr) (f : T) : Prop := PT X e (liftT X.K C f)
abbrev SA (X : Cx) (C : Cc) (es : List Expr) (f : As) : Prop := PA X es (liftA X.K C f)

theorem pe_weak {X : Cx} {e : Expr} {t t' : TE} (h : PE X e t) (w : ∀ σ H Q, t' σ H Q → t σ H Q) : PE X e t' := ⟨fun pins s σ H Q I z => h.run pins s σ H Q I (w σ H Q z)⟩
theorem pt_weak {X : Cx} {e : Expr} {t t' : TT} (h : PT X e t) (w : ∀ σ H Q, t' σ H Q → t σ H Q) : PT X e t' := ⟨fun pins s σ H Q I z => h.run pins s σ H Q I (w σ H Q z)⟩
theorem pw_weak {X : Cx} {e : Expr} {t t' : TT} (h : PW X e t) (w : ∀ σ H Q, t' σ H Q → t σ H Q) : PW X e t' := ⟨fun wh pins s σ H Q I z => h.run wh pins s σ H Q I (w σ H Q z)⟩
theorem pa_weak {X : Cx} {e : List Expr} {t t' : TA} (h : PA X e t) (w : ∀ σ H Q, t' σ H Q → t σ H Q) : PA X e t' := ⟨fun pos pins s σ H Q I z => h.run pos pins s σ H Q I (w σ H Q z)⟩

section
variable {K : PySem.W.Frag} {C : Cc} {σ : L2.St} {G H : Hp}
theorem onX_step {e : Ex} {G' H' : Hp} (h : onX K C σ G H e) (s : Stp G H G' H') : onX K C σ G' H' e := fun cls dd G2 H2 t r => h cls dd G2 H2 (s.trans t) r
theorem onR_mono {r : R D} {P P' : D → V → Hp → Hp → Prop} (h : onR K C σ G H r P) (w : ∀ d v G' H', Stp G H G' H' → Rep K G' d v → P d v G' H' → P' d v G' H') : onR K C σ G H r P' := by
  cases r with
  | ok d => exact fun v G' H' s q => w d v G' H' s q (h v G' H' s q)
  | exc e => exact h
  | stk => exact h
theorem onB_mono {r : R Bool} {P P' : Bool → Hp → Hp → Prop} (h : onB K C σ G H r P) (w : ∀ b G' H', Stp G H G' H' → P b G' H' → P' b G' H') : onB K C σ G H r P' := by
  cases r with
  | ok d => exact fun G' H' s => w d G' H' s (h G' H' s)
  | exc e => exact h
  | stk => exact h
theorem onA_mono {r : R (List D)} {P P' : List D → List V → Hp → Hp → Prop} (h : onA K C σ G H r P) (w : ∀ d v G' H', Stp G H G' H' → RepL K G' d v → P d v G' H' → P' d v G' H') : onA K C σ G H r P' := by
  cases r with
  | ok d => exact fun v G' H' s q => w d v G' H' s q (h v G' H' s q)
  | exc e => exact h
  | stk => exact h
/-- one after another -/
theorem onR_RR {r : R D} {k : D → R D} {P : D → V → Hp → Hp → Prop} (h : onR K C σ G H (r.bind k) P) : onR K C σ G H r fun d _ G1 H1 => onR K C σ G1 H1 (k d) P := by
  cases r with
  | ok d =>
    intro v G1 H1 s q
    have h' : onR K C σ G H (k d) P := h
    show onR K C σ G1 H1 (k d) P
    cases e : k d with
    | ok d2 => rw [e] at h'; exact fun v2 G2 H2 s2 q2 => h' v2 G2 H2 (s.trans s2) q2
    | exc e2 => rw [e] at h'; exact onX_step h' s
    | stk => rw [e] at h'; exact h'
  | exc e => exact h
  | stk => exact h
theorem onR_RB {r : R D} {k : D → R Bool} {P : Bool → Hp → Hp → Prop} (h : onB K C σ G H (r.bind k) P) : onR K C σ G H r fun d _ G1 H1 => onB K C σ G1 H1 (k d) P := by
  cases r with
  | ok d =>
    intro v G1 H1 s q
    have h' : onB K C σ G H (k d) P := h
    show onB K C σ G1 H1 (k d) P
    cases e : k d with
    | ok d2 => rw [e] at h'; exact fun G2 H2 s2 => h' G2 H2 (s.trans s2)
    | exc e2 => rw [e] at h'; exact onX_step h' s
    | stk => rw [e] at h'; exact h'
  | exc e => exact h
  | stk => exact h
theorem onB_BB {r : R Bool} {k : Bool → R Bool} {P : Bool → Hp → Hp → Prop} (h : onB K C σ G H (r.bind k) P) : onB K C σ G H r fun d G1 H1 => onB K C σ G1 H1 (k d) P := by
  cases r with
  | ok d =>
    intro G1 H1 s
    have h' : onB K C σ G H (k d) P := h
    show onB K C σ G1 H1 (k d) P
    cases e : k d with
    | ok d2 => rw [e] at h'; exact fun G2 H2 s2 => h' G2 H2 (s.trans s2)
    | exc e2 => rw [e] at h'; exact onX_step h' s
    | stk => rw [e] at h'; exact h'
  | exc e => exact h
  | stk => exact h
theorem onB_BR {r : R Bool} {k : Bool → R D} {P : D → V → Hp → Hp → Prop} (h : onR K C σ G H (r.bind k) P) : onB K C σ G H r fun d G1 H1 => onR K C σ G1 H1 (k d) P := by
  cases r with
  | ok d =>
    intro G1 H1 s
    have h' : onR K C σ G H (k d) P := h
    show onR K C σ G1 H1 (k d) P
    cases e : k d with
    | ok d2 => rw [e] at h'; exact fun v2 G2 H2 s2 q2 => h' v2 G2 H2 (s.trans s2) q2
    | exc e2 => rw [e] at h'; exact onX_step h' s
    | stk => rw [e] at h'; exact h'
  | exc e => exact h
  | stk => exact h
theorem onR_RA {r : R D} {k : D → R (List D)} {P : List D → List V → Hp → Hp → Prop} (h : onA K C σ G H (r.bind k) P) : onR K C σ G H r fun d _ G1 H1 => onA K C σ G1 H1 (k d) P := by
  cases r with
  | ok d =>
    intro v G1 H1 s q
    have h' : onA K C σ G H (k d) P := h
    show onA K C σ G1 H1 (k d) P
    cases e : k d with
    | ok d2 => rw [e] at h'; exact fun v2 G2 H2 s2 q2 => h' v2 G2 H2 (s.trans s2) q2
    | exc e2 => rw [e] at h'; exact onX_step h' s
    | stk => rw [e] at h'; exact h'
  | exc e => exact h
  | stk => exact h
theorem onA_AR {r : R (List D)} {k : List D → R D} {P : D → V → Hp → Hp → Prop} (h : onR K C σ G H (r.bind k) P) : onA K C σ G H r fun ds _ G1 H1 => onR K C σ G1 H1 (k ds) P := by
  cases r with
  | ok d =>
    intro v G1 H1 s q
    have h' : onR K C σ G H (k d) P := h
    show onR K C σ G1 H1 (k d) P
    cases e : k d with
    | ok d2 => rw [e] at h'; exact fun v2 G2 H2 s2 q2 => h' v2 G2 H2 (s.trans s2) q2
    | exc e2 => rw [e] at h'; exact onX_step h' s
    | stk => rw [e] at h'; exact h'
  | exc e => exact h
  | stk => exact h
theorem onA_AA {r : R (List D)} {k : List D → R (List D)} {P : List D → List V → Hp → Hp → Prop} (h : onA K C σ G H (r.bind k) P) : onA K C σ G H r fun ds _ G1 H1 => onA K C σ G1 H1 (k ds) P := by
  cases r with
  | ok d =>
    intro v G1 H1 s q
    have h' : onA K C σ G H (k d) P := h
    show onA K C σ G1 H1 (k d) P
    cases e : k d with
    | ok d2 => rw [e] at h'; exact fun v2 G2 H2 s2 q2 => h' v2 G2 H2 (s.trans s2) q2
    | exc e2 => rw [e] at h'; exact onX_step h' s
    | stk => rw [e] at h'; exact h'
  | exc e => exact h
  | stk => exact h
theorem onR_self {d : D} {v : V} {P : D → V → Hp → Hp → Prop} (sub : Same G H) (h : onR K C σ G H (.ok d) P) (r : Rep K G d v) : P d v G H := h v G H (Stp.refl sub) r
theorem onB_self {b : Bool} {P : Bool → Hp → Hp → Prop} (sub : Same G H) (h : onB K C σ G H (.ok b) P) : P b G H := h G H (Stp.refl sub)
end

/-! ### names and constants -/
def eV (i : Nat) : E := fun δ => match δ[i]? with
  | some (.v d) => .ok d
  | _ => .stk
def eC (d : D) : E := fun _ => .ok d
section
variable {X : Cx} {C : Cc} {pos : Pos}
theorem se_var (i : Nat) {x : Str} (hN : X.N[i]? = some x := by rfl) (hv : Vis X.env.scope x := by first | exact Or.inl rfl | exact Or.inr (Or.inl rfl) | exact Or.inr (Or.inr rfl)) (hd : (x == ("__debug__" : Str)) = false := by decide)
    (hcd : (x == ("__classdict__" : Str)) = false := by decide) : SE X C (.Name x pos) (eV i) :=
  pe_weak (pe_var hN hv hd hcd) fun σ H Q ⟨δ, G, re, h⟩ => by
    unfold eV at h
    cases e : δ[i]? with
    | none => rw [e] at h; exact h.elim
    | some s =>
      rw [e] at h
      cases s with
      | un => exact h.elim
      | own xs => exact h.elim
      | bor xs => exact h.elim
      | v d =>
        obtain ⟨v, ev, rv⟩ := re.val e
        exact ⟨v, ev, onR_self re.sub h rv⟩
theorem se_int {i : Int} {j : Nat} : SE X C (.Constant (.int i) j pos) (eC (.int i)) := pe_weak pe_int fun σ H Q ⟨δ, G, re, h⟩ => onR_self re.sub h (.int i)
theorem se_bl {b : Bool} {j : Nat} : SE X C (.Constant (.bool b) j pos) (eC (.bl b)) := pe_weak pe_bl fun σ H Q ⟨δ, G, re, h⟩ => onR_self re.sub h (.bl b)
theorem se_non {j : Nat} : SE X C (.Constant .none j pos) (eC .non) := pe_weak pe_non fun σ H Q ⟨δ, G, re, h⟩ => onR_self re.sub h .non
theorem se_str {x : Str} {j : Nat} : SE X C (.Constant (.str x) j pos) (eC (.str x)) := pe_weak pe_str fun σ H Q ⟨δ, G, re, h⟩ => onR_self re.sub h (.str x)
/-- a constant of the module -/
theorem se_glob {x : Str} {d : D} {v : V} {u : Value} (hg : Gl X x) (hm : X.mg x = some u) (r : RelV v u) (rd : ∀ G : Hp, Rep X.K G d v) (hd : (x == ("__debug__" : Str)) = false := by decide) : SE X C (.Name x pos) (eC d) :=
  pe_weak (pe_glob hg hm r hd) fun σ H Q ⟨δ, G, re, h⟩ => onR_self re.sub h (rd G)
end

/-! ### operators, by values -/
abbrev B2 := D → D → Option D
/-- what an operator's rule reads: the data of both, and what is due behind it -/
def rD (K : PySem.W.Frag) (g : B2) : R2 := fun x y H Q => ∃ G dx dy d, g dx dy = some d ∧ Same G H ∧ Rep K G dx x ∧ Rep K G dy y ∧ ∀ v G' H', Stp G H G' H' → Rep K G' d v → Q v H'
def eBin (g : B2) (a b : E) : E := fun δ => (a δ).bind fun x => (b δ).bind fun y => R.ofO (g x y)
section
variable {X : Cx} {C : Cc} {pos : Pos} {a b c : Expr} {fa fb fc : E} {g : B2}
theorem lift_bin {K : PySem.W.Frag} {σ : L2.St} {H : Hp} {Q : VK} (h : liftE K C (eBin g fa fb) σ H Q) : tOp (rD K g) (liftE K C fa) (liftE K C fb) σ H Q := by
  obtain ⟨δ, G, re, h⟩ := h
  refine ⟨δ, G, re, onR_mono (onR_RR h) fun d v G1 H1 s1 r1 h1 => ?_⟩
  refine ⟨δ, G1, re.step s1, onR_mono (onR_RR h1) fun d2 v2 G2 H2 s2 r2 h2 => ?_⟩
  cases e : g d d2 with
  | none => rw [e] at h2; exact h2.elim
  | some z =>
    rw [e] at h2
    exact ⟨G2, d, d2, z, e, s2.sub, r1.mono s2.g, r2, fun v3 G3 H3 s3 r3 => h2 v3 G3 H3 s3 r3⟩
theorem se_bin {op : Operator} (ho : OpR X (binaryOp op) (rD X.K g)) (ha : SE X C a fa) (hb : SE X C b fb) : SE X C (.BinOp a op b pos) (eBin g fa fb) :=
  pe_weak (pe_op ho ha hb) fun σ H Q h => lift_bin h
theorem se_cmp {op : CmpOp} (ho : OpR X (compareOp op) (rD X.K g)) (ha : SE X C a fa) (hb : SE X C b fb) (hm : behindInMarks op b = false := by first | exact nomark _ | rfl) : SE X C (.Compare a [op] [b] pos) (eBin g fa fb) :=
  pe_weak (pe_cmpR ho ha hb hm) fun σ H Q h => lift_bin h
/-- a value as a test: a truth -/
def tV (f : E) : T := fun δ => (f δ).bind fun d => match d with
  | .bl b => .ok b
  | _ => .stk
theorem lift_test {K : PySem.W.Frag} {f : E} {σ : L2.St} {H : Hp} {Q : Bool → Hp → Prop} (h : liftT K C (tV f) σ H Q) : liftE K C f σ H fun v H' => ∃ k, v = .bl k ∧ Q k H' := by
  obtain ⟨δ, G, re, h⟩ := h
  refine ⟨δ, G, re, onR_mono (onR_RB h) fun d v G1 H1 s1 r1 h1 => ?_⟩
  cases r1 with
  | bl k => exact ⟨k, rfl, onB_self s1.sub h1⟩
  | non => exact h1.elim
  | int i => exact h1.elim
  | str x => exact h1.elim
  | fn x => exact h1.elim
  | dct p l q => exact h1.elim
  | tup p q => exact h1.elim
  | lst p q => exact h1.elim
theorem st_cmp {op : CmpOp} (ho : OpR X (compareOp op) (rD X.K g)) (ha : SE X C a fa) (hb : SE X C b fb) (hm : behindInMarks op b = false := by first | exact nomark _ | rfl) : ST X C (.Compare a [op] [b] pos) (tV (eBin g fa fb)) := by
  refine ⟨fun pins s σ H Q I h => ?_⟩
  refine (pt_cmpR ho ha hb hm).run pins s σ H Q I ?_
  have z := lift_bin (Q := fun v H' => ∃ k, v = .bl k ∧ Q k H') (lift_test h)
  exact z
theorem st_val {e : Expr} {f : E} (h : SE X C e f) (he : ∀ whole, isTrue e X.env whole = (do let v ← whole; standAt e.pos; holding [v] (truthy v)) := by intro _; rfl) : ST X C e (tV f) :=
  pt_weak (pt_val h he) fun σ H Q z => lift_test z
/-- two comparisons in a chain -/
def eChain (g g' : B2) (a b c : E) : E := fun δ => (a δ).bind fun x => (b δ).bind fun y => (R.ofO (g x y)).bind fun z => match z with
  | .bl true => (c δ).bind fun w => R.ofO (g' y w)
  | .bl false => .ok (.bl false)
  | _ => .stk
theorem lift_chain {K : PySem.W.Frag} {g' : B2} {σ : L2.St} {H : Hp} {Q : VK} (h : liftE K C (eChain g g' fa fb fc) σ H Q) : tChain (rD K g) (rD K g') (liftE K C fa) (liftE K C fb) (liftE K C fc) σ H Q := by
  obtain ⟨δ, G, re, h⟩ := h
  refine ⟨δ, G, re, onR_mono (onR_RR h) fun d v G1 H1 s1 r1 h1 => ?_⟩
  refine ⟨δ, G1, re.step s1, onR_mono (onR_RR h1) fun d2 v2 G2 H2 s2 r2 h2 => ?_⟩
  have h3 := onR_RR h2
  cases e : g d d2 with
  | none => rw [e] at h3; exact h3.elim
  | some z =>
    rw [e] at h3
    refine ⟨G2, d, d2, z, e, s2.sub, r1.mono s2.g, r2, fun v3 G3 H3 s3 r3 => ?_⟩
    have h4 := h3 v3 G3 H3 s3 r3
    cases r3 with
    | bl k =>
      refine ⟨k, rfl, ?_⟩
      cases k with
      | true =>
        rw [if_pos rfl]
        refine ⟨δ, G3, ((re.step s1).step s2).step s3, onR_mono (onR_RR h4) fun d4 v4 G4 H4 s4 r4 h5 => ?_⟩
        cases e2 : g' d2 d4 with
        | none => rw [e2] at h5; exact h5.elim
        | some z2 =>
          rw [e2] at h5
          exact ⟨G4, d2, d4, z2, e2, s4.sub, r2.mono (s3.g.trans s4.g), r4, fun v5 G5 H5 s5 r5 => h5 v5 G5 H5 s5 r5⟩
      | false =>
        rw [if_neg Bool.false_ne_true]
        exact onR_self s3.sub h4 (.bl false)
    | non => exact h4.elim
    | int i => exact h4.elim
    | str x => exact h4.elim
    | fn x => exact h4.elim
    | dct p l q => exact h4.elim
    | tup p q => exact h4.elim
    | lst p q => exact h4.elim
theorem se_chain {op op' : CmpOp} {g' : B2} (ho : OpR X (compareOp op) (rD X.K g)) (ho' : OpR X (compareOp op') (rD X.K g')) (ha : SE X C a fa) (hb : SE X C b fb) (hc : SE X C c fc)
    (hm : lastMarks [op, op'] [b, c] = false := by with_unfolding_all rfl) : SE X C (.Compare a [op, op'] [b, c] pos) (eChain g g' fa fb fc) :=
  pe_weak (pe_chain ho ho' ha hb hc hm) fun σ H Q h => lift_chain h
theorem st_chain {op op' : CmpOp} {g' : B2} (ho : OpR X (compareOp op) (rD X.K g)) (ho' : OpR X (compareOp op') (rD X.K g')) (ha : SE X C a fa) (hb : SE X C b fb) (hc : SE X C c fc)
    (hm : lastMarks [op, op'] [b, c] = false := by with_unfolding_all rfl) : ST X C (.Compare a [op, op'] [b, c] pos) (tV (eChain g g' fa fb fc)) := by
  refine ⟨fun pins s σ H Q I h => ?_⟩
  refine (pt_chain ho ho' ha hb hc hm).run pins s σ H Q I ?_
  have z := lift_chain (Q := fun v H' => ∃ k, v = .bl k ∧ Q k H') (lift_test h)
  exact z

/-! ### not, and, or -/
def tNt (f : T) : T := fun δ => (f δ).bind fun b => .ok (!b)
def tAn (f g : T) : T := fun δ => (f δ).bind fun b => if b = true then g δ else .ok false
def tOrr (f g : T) : T := fun δ => (f δ).bind fun b => if b = true then .ok true else g δ
theorem st_not {ft : T} (h : ST X C a ft) : ST X C (.UnaryOp .Not a pos) (tNt ft) := pt_weak (pt_not h) fun σ H Q ⟨δ, G, re, h⟩ =>
  ⟨δ, G, re, onB_mono (onB_BB h) fun b G1 H1 s1 h1 => onB_self s1.sub h1⟩
theorem lift_and {K : PySem.W.Frag} {ft gt : T} {σ : L2.St} {H : Hp} {Q : Bool → Hp → Prop} (h : liftT K C (tAn ft gt) σ H Q) : tAnd (liftT K C ft) (liftT K C gt) σ H Q := by
  obtain ⟨δ, G, re, h⟩ := h
  refine ⟨δ, G, re, onB_mono (onB_BB h) fun b G1 H1 s1 h1 => ?_⟩
  cases b with
  | true => exact ⟨δ, G1, re.step s1, h1⟩
  | false => exact onB_self s1.sub h1
theorem lift_or {K : PySem.W.Frag} {ft gt : T} {σ : L2.St} {H : Hp} {Q : Bool → Hp → Prop} (h : liftT K C (tOrr ft gt) σ H Q) : tOr (liftT K C ft) (liftT K C gt) σ H Q := by
  obtain ⟨δ, G, re, h⟩ := h
  refine ⟨δ, G, re, onB_mono (onB_BB h) fun b G1 H1 s1 h1 => ?_⟩
  cases b with
  | true => exact onB_self s1.sub h1
  | false => exact ⟨δ, G1, re.step s1, h1⟩
end
/-- tests whose whole is theirs (and, or) -/
abbrev SW (X : Cx) (C : Cc) (e : Expr) (f : T) : Prop := PW X e (liftT X.K C f)
section
variable {X : Cx} {C : Cc} {pos : Pos} {a : Expr} {rest : List Expr} {ft gt : T}
theorem sw_and1 (ha : ST X C a ft) : SW X C (.BoolOp .And [a] pos) ft := pw_and1 ha
theorem sw_and {b : Expr} (ha : ST X C a ft) (hr : SW X C (.BoolOp .And (b :: rest) pos) gt) : SW X C (.BoolOp .And (a :: b :: rest) pos) (tAn ft gt) := pw_weak (pw_and ha hr) fun σ H Q h => lift_and h
theorem sw_or1 (ha : ST X C a ft) : SW X C (.BoolOp .Or [a] pos) ft := pw_or1 ha
theorem sw_or {b : Expr} (ha : ST X C a ft) (hr : SW X C (.BoolOp .Or (b :: rest) pos) gt) : SW X C (.BoolOp .Or (a :: b :: rest) pos) (tOrr ft gt) := pw_weak (pw_or ha hr) fun σ H Q h => lift_or h
end
/-! ### and, or, not as values (truths) -/
def eAn (a b : E) : E := fun δ => (a δ).bind fun x => match x with
  | .bl true => b δ
  | .bl false => .ok (.bl false)
  | _ => .stk
def eOr (a b : E) : E := fun δ => (a δ).bind fun x => match x with
  | .bl true => .ok (.bl true)
  | .bl false => b δ
  | _ => .stk
def eNt (a : E) : E := fun δ => (a δ).bind fun x => match x with
  | .bl k => .ok (.bl !k)
  | _ => .stk
section
variable {X : Cx} {C : Cc} {pos : Pos} {a b c : Expr} {fa fb fc : E} {ft : T}
theorem lift_anV {K : PySem.W.Frag} {σ : L2.St} {H : Hp} {Q : VK} (h : liftE K C (eAn fa fb) σ H Q) : tAndV (liftE K C fa) (liftE K C fb) σ H Q := by
  obtain ⟨δ, G, re, h⟩ := h
  refine ⟨δ, G, re, onR_mono (onR_RR h) fun d v G1 H1 s1 r1 h1 => ?_⟩
  cases r1 with
  | bl k =>
    refine ⟨k, rfl, ?_⟩
    cases k with
    | true => exact ⟨δ, G1, re.step s1, h1⟩
    | false => exact onR_self s1.sub h1 (.bl false)
  | non => exact h1.elim
  | int i => exact h1.elim
  | str x => exact h1.elim
  | fn x => exact h1.elim
  | dct p l q => exact h1.elim
  | tup p q => exact h1.elim
  | lst p q => exact h1.elim
theorem lift_orV {K : PySem.W.Frag} {σ : L2.St} {H : Hp} {Q : VK} (h : liftE K C (eOr fa fb) σ H Q) : tOrV (liftE K C fa) (liftE K C fb) σ H Q := by
  obtain ⟨δ, G, re, h⟩ := h
  refine ⟨δ, G, re, onR_mono (onR_RR h) fun d v G1 H1 s1 r1 h1 => ?_⟩
  cases r1 with
  | bl k =>
    refine ⟨k, rfl, ?_⟩
    cases k with
    | true => exact onR_self s1.sub h1 (.bl true)
    | false => exact ⟨δ, G1, re.step s1, h1⟩
  | non => exact h1.elim
  | int i => exact h1.elim
  | str x => exact h1.elim
  | fn x => exact h1.elim
  | dct p l q => exact h1.elim
  | tup p q => exact h1.elim
  | lst p q => exact h1.elim
theorem se_not (ha : SE X C a fa) (he : ∀ whole, isTrue a X.env whole = (do let v ← whole; standAt a.pos; holding [v] (truthy v)) := by intro _; rfl) : True := trivial
/-- a if t else b -/
def eIf (t : T) (a b : E) : E := fun δ => (t δ).bind fun k => if k = true then a δ else b δ
theorem se_if (ht : ST X C c ft) (ha : SE X C a fa) (hb : SE X C b fb) : SE X C (.IfExp c a b pos) (eIf ft fa fb) := pe_weak (pe_ifExp ht ha hb) fun σ H Q ⟨δ, G, re, h⟩ => by
  refine ⟨δ, G, re, onB_mono (onB_BR h) fun b G1 H1 s1 h1 => ?_⟩
  cases b with
  | true => exact ⟨δ, G1, re.step s1, h1⟩
  | false => exact ⟨δ, G1, re.step s1, h1⟩
end

/-! ### arguments, displays -/
def aNil : As := fun _ => .ok []
def aCons (f : E) (r : As) : As := fun δ => (f δ).bind fun x => (r δ).bind fun xs => .ok (x :: xs)
section
variable {X : Cx} {C : Cc} {pos : Pos} {e : Expr} {es : List Expr} {f : E} {r : As}
theorem sa_nil : SA X C [] aNil := pa_weak pa_nil fun σ H Q ⟨δ, G, re, h⟩ => h [] G H (Stp.refl re.sub) .nil
theorem sa_cons (ha : SE X C e f) (hr : SA X C es r) (hs : starEach (e :: es) X.env = (false, eval e X.env) :: starEach es X.env := by rfl) : SA X C (e :: es) (aCons f r) :=
  pa_weak (pa_cons ha hr hs) fun σ H Q ⟨δ, G, re, h⟩ => ⟨δ, G, re, onR_mono (onR_RA h) fun d v G1 H1 s1 r1 h1 =>
    ⟨δ, G1, re.step s1, onA_mono (onA_AA h1) fun ds vs G2 H2 s2 r2 h2 => h2 (v :: vs) G2 H2 (Stp.refl s2.sub) (.cons (r1.mono s2.g) r2)⟩⟩
def eTup (r : As) : E := fun δ => (r δ).bind fun xs => if xs.length ≤ sizeLine then .ok (.tup xs) else .stk
def eLst (r : As) : E := fun δ => (r δ).bind fun xs => if xs.length ≤ sizeLine then .ok (.lst xs) else .stk
theorem se_tup {k : Nat} (h : SA X C es r) : SE X C (.Tuple es k pos) (eTup r) := pe_weak (pe_tup h) fun σ H Q ⟨δ, G, re, h⟩ =>
  ⟨δ, G, re, onA_mono (onA_AR h) fun ds vs G1 H1 s1 r1 h1 => by
    have hl := r1.length
    by_cases z : ds.length ≤ sizeLine
    · rw [if_pos z] at h1
      refine ⟨by omega, fun p hp => h1 (.ref p) (upd G1 p (.tup vs)) _ (Stp.new s1.sub hp _) (.tup (SqT.of upd_same) (r1.mono (same_new (s1.sub.free hp) _)))⟩
    · rw [if_neg z] at h1
      exact h1.elim⟩
theorem se_lst (h : SA X C es r) : SE X C (.List es pos) (eLst r) := pe_weak (pe_lst h) fun σ H Q ⟨δ, G, re, h⟩ =>
  ⟨δ, G, re, onA_mono (onA_AR h) fun ds vs G1 H1 s1 r1 h1 => by
    have hl := r1.length
    by_cases z : ds.length ≤ sizeLine
    · rw [if_pos z] at h1
      refine ⟨by omega, fun p hp => h1 (.ref p) (upd G1 p (.lst vs)) _ (Stp.new s1.sub hp _) (.lst (SqL.of upd_same) (r1.mono (same_new (s1.sub.free hp) _)))⟩
    · rw [if_neg z] at h1
      exact h1.elim⟩
end
end Fs

/-! F3: operators, built-in functions, items and slices over data. -/
namespace Fs
open PySem L2

/-! ### data that == takes -/
mutual
def toPy : D → Option PyData
  | .non => some .none
  | .bl b => some (.bool b)
  | .int i => some (.int i)
  | .str x => some (.str x)
  | .fn _ => none
  | .dct _ _ => none
  | .tup xs => (toPyL xs).map .tuple
  | .lst xs => (toPyL xs).map .list
def toPyL : List D → Option (List PyData)
  | [] => some []
  | d :: ds => match toPy d, toPyL ds with
    | some p, some ps => some (p :: ps)
    | _, _ => none
end
mutual
theorem Rep.dp {K : PySem.W.Frag} {G H : Hp} (sub : Same G H) : ∀ {d : D} {v : V} {p : PyData}, Rep K G d v → toPy d = some p → Dp K H v p
  | _, _, _, .non, e => by simp only [toPy, Option.some.injEq] at e; subst e; exact .non
  | _, _, _, .bl b, e => by simp only [toPy, Option.some.injEq] at e; subst e; exact .bl b
  | _, _, _, .int i, e => by simp only [toPy, Option.some.injEq] at e; subst e; exact .int i
  | _, _, _, .str x, e => by simp only [toPy, Option.some.injEq] at e; subst e; exact .str x
  | _, _, _, .fn a, e => by simp only [toPy] at e; exact nomatch e
  | _, _, _, .dct h l r, e => by simp only [toPy] at e; exact nomatch e
  | .tup ds, _, _, .tup h r, e => by
    simp only [toPy] at e
    cases q : toPyL ds with
    | none => rw [q] at e; exact nomatch e
    | some ps =>
      rw [q] at e
      simp only [Option.map_some, Option.some.injEq] at e
      subst e
      exact .tup (sqt_mono sub h) (RepL.dp sub r q)
  | .lst ds, _, _, .lst h r, e => by
    simp only [toPy] at e
    cases q : toPyL ds with
    | none => rw [q] at e; exact nomatch e
    | some ps =>
      rw [q] at e
      simp only [Option.map_some, Option.some.injEq] at e
      subst e
      exact .lst (sub.seq h) (RepL.dp sub r q)
theorem RepL.dp {K : PySem.W.Frag} {G H : Hp} (sub : Same G H) : ∀ {ds : List D} {vs : List V} {ps : List PyData}, RepL K G ds vs → toPyL ds = some ps → DpAll K H vs ps
  | _, _, _, .nil, e => by simp only [toPyL, Option.some.injEq] at e; subst e; exact .nil
  | d :: ds, _, _, .cons h r, e => by
    simp only [toPyL] at e
    cases q : toPy d with
    | none => rw [q] at e; simp at e
    | some p =>
      cases q2 : toPyL ds with
      | none => rw [q, q2] at e; simp at e
      | some ps =>
        rw [q, q2] at e
        simp only [Option.some.injEq] at e
        subst e
        exact .cons (Rep.dp sub h q) (RepL.dp sub r q2)
end

/-! ### operators -/
def gAdd : B2
  | .int i, .int j => some (.int (i + j))
  | .str x, .str y => if x.length + y.length ≤ sizeLine then some (.str (x ++ y)) else none
  | .lst xs, .lst ys => if xs.length + ys.length ≤ sizeLine then some (.lst (xs ++ ys)) else none
  | .tup xs, .tup ys => if xs.length + ys.length ≤ sizeLine then some (.tup (xs ++ ys)) else none
  | _, _ => none
def gSub : B2
  | .int i, .int j => some (.int (i - j))
  | _, _ => none
instance {i j : Int} : Decidable (IntMulOk i j) := by unfold IntMulOk; infer_instance
def gMul : B2
  | .int i, .int j => if IntMulOk i j then some (.int (i * j)) else none
  | _, _ => none
def gDiv : B2
  | .int i, .int j => if 0 < j ∧ j.natAbs.log2 < 9000 then some (.int (i / j)) else none
  | _, _ => none
def gMod : B2
  | .int i, .int j => if 0 < j then some (.int (i % j)) else none
  | _, _ => none
def gPow : B2
  | .int i, .int j => if 0 ≤ j ∧ (Builtin.Int.intBits i : Int) * j ≤ 2 ^ 27 then some (.int (i ^ j.toNat)) else none
  | _, _ => none
def gShl : B2
  | .int i, .int j => if 0 ≤ j ∧ (Builtin.Int.intBits i : Int) + j ≤ 2 ^ 27 then some (.int (i * 2 ^ j.toNat)) else none
  | _, _ => none
def gShr : B2
  | .int i, .int j => if 0 ≤ j then some (.int (i / 2 ^ j.toNat)) else none
  | _, _ => none
def gLt : B2
  | .int i, .int j => some (.bl (decide (i < j)))
  | .str x, .str y => some (.bl (decide (x.cps.toList < y.cps.toList)))
  | _, _ => none
def gLe : B2
  | .int i, .int j => some (.bl (decide (i ≤ j)))
  | _, _ => none
def gGt : B2
  | .int i, .int j => some (.bl (decide (j < i)))
  | _, _ => none
def gGe : B2
  | .int i, .int j => some (.bl (decide (j ≤ i)))
  | _, _ => none
def eqPy (x y : D) : Option Bool := match toPy x, toPy y with
  | some p, some q => if SeqAt.shaped p && SeqAt.shaped q then some (PyData.eqv p q) else none
  | _, _ => none
def eqO : D → D → Option Bool
  | .int i, .int j => some (decide (i = j))
  | .str x, .str y => some (decide (x = y))
  | .bl x, .bl y => some (decide (x = y))
  | .non, .non => some true
  | .non, .str _ => some false
  | .str _, .non => some false
  | .int _, .str _ => some false
  | .str _, .int _ => some false
  | .non, .int _ => some false
  | .int _, .non => some false
  | x, y => eqPy x y
def gEq : B2 := fun x y => (eqO x y).map .bl
def gNe : B2 := fun x y => (eqO x y).map fun b => .bl !b
def gIsN : B2
  | x, .non => some (.bl (match x with | .non => true | _ => false))
  | _, _ => none
def gNotN : B2
  | x, .non => some (.bl (match x with | .non => false | _ => true))
  | _, _ => none

section
variable {X : Cx}
theorem op_none {f : Value → Value → Sem Value} {r : R2} : OpR X f r → OpR X f r := id
theorem o_add : OpR X (binaryOp .Add) (rD X.K gAdd) := by
  intro pins s σ H x y v u Q I rx ry h
  obtain ⟨G, dx, dy, d, e, sub, r1, r2, h⟩ := h
  cases r1 with
  | int i =>
    cases r2 <;> simp only [gAdd, Option.some.injEq, reduceCtorEq] at e
    subst e
    exact op_add pins s σ H _ _ v u Q I rx ry ⟨_, _, rfl, rfl, h _ G H (Stp.refl sub) (.int _)⟩
  | str z =>
    cases r2 <;> simp only [gAdd, reduceCtorEq] at e
    split at e
    · rename_i hz
      simp only [Option.some.injEq] at e
      subst e
      exact op_add_str pins s σ H _ _ v u Q I rx ry ⟨_, _, rfl, rfl, hz, h _ G H (Stp.refl sub) (.str _)⟩
    · exact nomatch e
  | non => cases r2 <;> simp only [gAdd, reduceCtorEq] at e
  | bl b => cases r2 <;> simp only [gAdd, reduceCtorEq] at e
  | fn a => cases r2 <;> simp only [gAdd, reduceCtorEq] at e
  | dct p l q => cases r2 <;> simp only [gAdd, reduceCtorEq] at e
  | tup p q =>
    cases r2 <;> simp only [gAdd, reduceCtorEq] at e
    rename_i p2 q2
    split at e
    · rename_i hz
      simp only [Option.some.injEq] at e
      subst e
      have l1 := q.length
      have l2 := q2.length
      refine op_catA pins s σ H _ _ v u Q I rx ry ⟨_, _, _, _, rfl, rfl, sqt_mono sub p, sqt_mono sub p2, by omega, fun z => ?_, fun z1 z2 => ?_, fun z1 z2 c hc => ?_⟩
      · subst z
        cases q
        exact h _ G H (Stp.refl sub) (.tup p2 q2)
      · subst z2
        cases q2
        rw [List.append_nil] at h
        exact h _ G H (Stp.refl sub) (.tup p q)
      · exact h _ _ _ (Stp.new sub hc _) (.tup (SqT.of upd_same) (RepL.append (q.mono (same_new (sub.free hc) _)) (q2.mono (same_new (sub.free hc) _))))
    · exact nomatch e
  | lst p q =>
    cases r2 <;> simp only [gAdd, reduceCtorEq] at e
    rename_i a1 vs1 ds1 a2 vs2 ds2 p2 q2
    split at e
    · rename_i hz
      simp only [Option.some.injEq] at e
      subst e
      cases rx
      cases ry
      have l1 := q.length
      have l2 := q2.length
      obtain ⟨is1, t1, ⟨⟨c1, d1, b1, s1⟩, n1, ho1, hc1, hd1, hs1⟩, z1⟩ := I.list (sub.seq p)
      obtain ⟨is2, t2, ⟨⟨c2, d2, b2, s2⟩, n2, ho2, hc2, hd2, hs2⟩, z2⟩ := I.list (sub.seq p2)
      simp only at hc1 hd1 hs1 hc2 hd2 hs2
      subst hc1 hd1 hs1 hc2 hd2 hs2
      have m1 := t1.length
      have m2 := t2.length
      refine concat_meets ⟨_, ho1, rfl⟩ ⟨_, ho2, rfl⟩ noFill_list_add seq_list_add PySem.F.slot_list_add PySem.F.entry_list_add (PySem.F.args_list_add_2 _ _) (PyProof.Rows.list_addW _ _ is1.toArray is2.toArray n1 n2 _ _ s1 s2 (by simp only [List.size_toArray]; omega)) ⟨ho1, ho2, ?_⟩
      rw [show is1.toArray ++ is2.toArray = (is1 ++ is2).toArray by simp]
      have hf := I.fresh
      have sg := same_new (sub.free hf) (.lst (vs1 ++ vs2))
      exact ⟨.ref _, _, I.lnew (t' := s.toks) (t1.append t2) (by simp only [List.length_append]; omega), rfl, h _ _ _ (Stp.new sub hf _) (.lst (SqL.of upd_same) (RepL.append (q.mono sg) (q2.mono sg)))⟩
    · exact nomatch e
theorem o_sub : OpR X (binaryOp .Sub) (rD X.K gSub) := by
  intro pins s σ H x y v u Q I rx ry h
  obtain ⟨G, dx, dy, d, e, sub, r1, r2, h⟩ := h
  cases r1 <;> cases r2 <;> simp only [gSub, Option.some.injEq, reduceCtorEq] at e
  subst e
  exact op_sub pins s σ H _ _ v u Q I rx ry ⟨_, _, rfl, rfl, h _ G H (Stp.refl sub) (.int _)⟩
theorem o_mul : OpR X (binaryOp .Mult) (rD X.K gMul) := by
  intro pins s σ H x y v u Q I rx ry h
  obtain ⟨G, dx, dy, d, e, sub, r1, r2, h⟩ := h
  cases r1 <;> cases r2 <;> simp only [gMul, reduceCtorEq] at e
  split at e
  · rename_i hc
    simp only [Option.some.injEq] at e
    subst e
    obtain ⟨t, rfl⟩ := rx
    obtain ⟨t', rfl⟩ := ry
    exact PyProof.Rows.mul_int ⟨.int _, H, I.tok _, ⟨_, rfl⟩, h _ G H (Stp.refl sub) (.int _)⟩ hc
  · exact nomatch e
theorem o_div : OpR X (binaryOp .FloorDiv) (rD X.K gDiv) := by
  intro pins s σ H x y v u Q I rx ry h
  obtain ⟨G, dx, dy, d, e, sub, r1, r2, h⟩ := h
  cases r1 <;> cases r2 <;> simp only [gDiv, reduceCtorEq] at e
  split at e
  · rename_i hc
    simp only [Option.some.injEq] at e
    subst e
    exact op_fdivW pins s σ H _ _ v u Q I rx ry ⟨_, _, rfl, rfl, hc, h _ G H (Stp.refl sub) (.int _)⟩
  · exact nomatch e
theorem o_mod : OpR X (binaryOp .Mod) (rD X.K gMod) := by
  intro pins s σ H x y v u Q I rx ry h
  obtain ⟨G, dx, dy, d, e, sub, r1, r2, h⟩ := h
  cases r1 <;> cases r2 <;> simp only [gMod, reduceCtorEq] at e
  split at e
  · rename_i hc
    simp only [Option.some.injEq] at e
    subst e
    exact op_mod pins s σ H _ _ v u Q I rx ry ⟨_, _, rfl, rfl, hc, h _ G H (Stp.refl sub) (.int _)⟩
  · exact nomatch e
theorem op_powW : OpR X (binaryOp .Pow) (rI (fun i j => 0 ≤ j ∧ (Builtin.Int.intBits i : Int) * j ≤ 2 ^ 27) fun i j => .int (i ^ j.toNat)) := opI fun _ _ _ _ _ _ _ hc q => PyProof.Rows.pow_int hc.1 hc.2 q
theorem o_pow : OpR X (binaryOp .Pow) (rD X.K gPow) := by
  intro pins s σ H x y v u Q I rx ry h
  obtain ⟨G, dx, dy, d, e, sub, r1, r2, h⟩ := h
  cases r1 <;> cases r2 <;> simp only [gPow, reduceCtorEq] at e
  split at e
  · rename_i hc
    simp only [Option.some.injEq] at e
    subst e
    exact op_powW pins s σ H _ _ v u Q I rx ry ⟨_, _, rfl, rfl, hc, h _ G H (Stp.refl sub) (.int _)⟩
  · exact nomatch e
theorem o_shl : OpR X (binaryOp .LShift) (rD X.K gShl) := by
  intro pins s σ H x y v u Q I rx ry h
  obtain ⟨G, dx, dy, d, e, sub, r1, r2, h⟩ := h
  cases r1 <;> cases r2 <;> simp only [gShl, reduceCtorEq] at e
  split at e
  · rename_i hc
    simp only [Option.some.injEq] at e
    subst e
    exact op_shlW pins s σ H _ _ v u Q I rx ry ⟨_, _, rfl, rfl, hc, h _ G H (Stp.refl sub) (.int _)⟩
  · exact nomatch e
theorem o_shr : OpR X (binaryOp .RShift) (rD X.K gShr) := by
  intro pins s σ H x y v u Q I rx ry h
  obtain ⟨G, dx, dy, d, e, sub, r1, r2, h⟩ := h
  cases r1 <;> cases r2 <;> simp only [gShr, reduceCtorEq] at e
  split at e
  · rename_i hc
    simp only [Option.some.injEq] at e
    subst e
    exact op_shr pins s σ H _ _ v u Q I rx ry ⟨_, _, rfl, rfl, hc, h _ G H (Stp.refl sub) (.int _)⟩
  · exact nomatch e
theorem o_lt : OpR X (compareOp .Lt) (rD X.K gLt) := by
  intro pins s σ H x y v u Q I rx ry h
  obtain ⟨G, dx, dy, d, e, sub, r1, r2, h⟩ := h
  cases r1 <;> cases r2 <;> simp only [gLt, Option.some.injEq, reduceCtorEq] at e
  · subst e
    exact op_lt pins s σ H _ _ v u Q I rx ry ⟨_, _, rfl, rfl, h _ G H (Stp.refl sub) (.bl _)⟩
  · subst e
    exact op_lt_str pins s σ H _ _ v u Q I rx ry ⟨_, _, rfl, rfl, h _ G H (Stp.refl sub) (.bl _)⟩
theorem o_le : OpR X (compareOp .LtE) (rD X.K gLe) := by
  intro pins s σ H x y v u Q I rx ry h
  obtain ⟨G, dx, dy, d, e, sub, r1, r2, h⟩ := h
  cases r1 <;> cases r2 <;> simp only [gLe, Option.some.injEq, reduceCtorEq] at e
  subst e
  exact op_le pins s σ H _ _ v u Q I rx ry ⟨_, _, rfl, rfl, h _ G H (Stp.refl sub) (.bl _)⟩
theorem o_gt : OpR X (compareOp .Gt) (rD X.K gGt) := by
  intro pins s σ H x y v u Q I rx ry h
  obtain ⟨G, dx, dy, d, e, sub, r1, r2, h⟩ := h
  cases r1 <;> cases r2 <;> simp only [gGt, Option.some.injEq, reduceCtorEq] at e
  subst e
  exact op_gt pins s σ H _ _ v u Q I rx ry ⟨_, _, rfl, rfl, h _ G H (Stp.refl sub) (.bl _)⟩
theorem o_ge : OpR X (compareOp .GtE) (rD X.K gGe) := by
  intro pins s σ H x y v u Q I rx ry h
  obtain ⟨G, dx, dy, d, e, sub, r1, r2, h⟩ := h
  cases r1 <;> cases r2 <;> simp only [gGe, Option.some.injEq, reduceCtorEq] at e
  subst e
  exact op_ge pins s σ H _ _ v u Q I rx ry ⟨_, _, rfl, rfl, h _ G H (Stp.refl sub) (.bl _)⟩
/-- both sides of == and != -/
theorem eq_core {K : PySem.W.Frag} {G H : Hp} (sub : Same G H) {dx dy : D} {x y : V} {b : Bool} (r1 : Rep K G dx x) (r2 : Rep K G dy y) (e : eqO dx dy = some b) :
    (scal x y = true ∧ decide (x = y) = b) ∨ ∃ p q, Dp K H x p ∧ Dp K H y q ∧ SeqAt.shaped p = true ∧ SeqAt.shaped q = true ∧ PyData.eqv p q = b := by
  have gen : eqPy dx dy = some b → ∃ p q, Dp K H x p ∧ Dp K H y q ∧ SeqAt.shaped p = true ∧ SeqAt.shaped q = true ∧ PyData.eqv p q = b := fun e => by
    unfold eqPy at e
    cases q1 : toPy dx with
    | none => rw [q1] at e; exact nomatch e
    | some p =>
      cases q2 : toPy dy with
      | none => rw [q1, q2] at e; exact nomatch e
      | some q =>
        rw [q1, q2] at e
        simp only at e
        split at e
        · rename_i hs
          rw [Bool.and_eq_true] at hs
          exact ⟨p, q, r1.dp sub q1, r2.dp sub q2, hs.1, hs.2, Option.some.inj e⟩
        · exact nomatch e
  cases r1 <;> cases r2 <;> first
    | (simp only [eqO] at e; exact .inr (gen e))
    | (refine .inl ⟨rfl, ?_⟩; simp only [eqO, Option.some.injEq] at e; rw [← e]; simp)
theorem o_eq (hu : X.A.units + 64 < cLine) : OpR X (compareOp .Eq) (rD X.K gEq) := by
  intro pins s σ H x y v u Q I rx ry h
  obtain ⟨G, dx, dy, d, e, sub, r1, r2, h⟩ := h
  unfold gEq at e
  cases q : eqO dx dy with
  | none => rw [q] at e; exact nomatch e
  | some b =>
    rw [q] at e
    have e' : d = .bl b := (Option.some.inj e).symm
    subst e'
    rcases eq_core sub r1 r2 q with ⟨h1, h2⟩ | ⟨p, q, d1, d2, s1, s2, eb⟩
    · exact op_eq pins s σ H x y v u Q I rx ry ⟨h1, by rw [h2]; exact h _ G H (Stp.refl sub) (.bl b)⟩
    · exact op_eqD hu pins s σ H x y v u Q I rx ry ⟨p, q, d1, d2, s1, s2, by rw [eb]; exact h _ G H (Stp.refl sub) (.bl b)⟩
theorem o_ne (hu : X.A.units + 64 < cLine) : OpR X (compareOp .NotEq) (rD X.K gNe) := by
  intro pins s σ H x y v u Q I rx ry h
  obtain ⟨G, dx, dy, d, e, sub, r1, r2, h⟩ := h
  unfold gNe at e
  cases q : eqO dx dy with
  | none => rw [q] at e; exact nomatch e
  | some b =>
    rw [q] at e
    have e' : d = .bl !b := (Option.some.inj e).symm
    subst e'
    rcases eq_core sub r1 r2 q with ⟨h1, h2⟩ | ⟨p, q, d1, d2, s1, s2, eb⟩
    · exact op_ne pins s σ H x y v u Q I rx ry ⟨h1, by rw [h2]; exact h _ G H (Stp.refl sub) (.bl _)⟩
    · exact op_neD hu pins s σ H x y v u Q I rx ry ⟨p, q, d1, d2, s1, s2, by rw [eb]; exact h _ G H (Stp.refl sub) (.bl _)⟩
theorem o_isN : OpR X (compareOp .Is) (rD X.K gIsN) := by
  intro pins s σ H x y v u Q I rx ry h
  obtain ⟨G, dx, dy, d, e, sub, r1, r2, h⟩ := h
  cases r2 <;> simp only [gIsN, Option.some.injEq, reduceCtorEq] at e
  subst e
  cases r1 <;> exact op_isN pins s σ H _ _ v u Q I rx ry ⟨rfl, h _ G H (Stp.refl sub) (.bl _)⟩
theorem o_notN : OpR X (compareOp .IsNot) (rD X.K gNotN) := by
  intro pins s σ H x y v u Q I rx ry h
  obtain ⟨G, dx, dy, d, e, sub, r1, r2, h⟩ := h
  cases r2 <;> simp only [gNotN, Option.some.injEq, reduceCtorEq] at e
  subst e
  cases r1 <;> exact op_notN pins s σ H _ _ v u Q I rx ry ⟨rfl, h _ G H (Stp.refl sub) (.bl _)⟩
end

/-! ### one operand -/
abbrev B1 := D → Option D
def rD1 (K : PySem.W.Frag) (g : B1) : V → Hp → VK → Prop := fun x H Q => ∃ G dx d, g dx = some d ∧ Same G H ∧ Rep K G dx x ∧ ∀ v G' H', Stp G H G' H' → Rep K G' d v → Q v H'
def eUn (g : B1) (a : E) : E := fun δ => (a δ).bind fun x => R.ofO (g x)
def gNeg : B1
  | .int i => some (.int (-i))
  | _ => none
section
variable {X : Cx} {C : Cc} {pos : Pos} {a : Expr} {fa : E} {g : B1}
theorem lift_un {K : PySem.W.Frag} {σ : L2.St} {H : Hp} {Q : VK} (h : liftE K C (eUn g fa) σ H Q) : tUn (rD1 K g) (liftE K C fa) σ H Q := by
  obtain ⟨δ, G, re, h⟩ := h
  refine ⟨δ, G, re, onR_mono (onR_RR h) fun d v G1 H1 s1 r1 h1 => ?_⟩
  cases e : g d with
  | none => rw [e] at h1; exact h1.elim
  | some z =>
    rw [e] at h1
    exact ⟨G1, d, z, e, s1.sub, r1, h1⟩
theorem se_un {op : UnaryOp} (ho : UnR X (unaryOp op) (rD1 X.K g)) (ha : SE X C a fa) : SE X C (.UnaryOp op a pos) (eUn g fa) := pe_weak (pe_un ho ha) fun σ H Q h => lift_un h
theorem o_neg : UnR X (unaryOp .USub) (rD1 X.K gNeg) := by
  intro pins s σ H x v Q I rx h
  obtain ⟨G, dx, d, e, sub, r1, h⟩ := h
  cases r1 <;> simp only [gNeg, Option.some.injEq, reduceCtorEq] at e
  subst e
  exact un_neg pins s σ H _ v Q I rx ⟨_, rfl, h _ G H (Stp.refl sub) (.int _)⟩
end

/-! ### built-in functions of values -/
abbrev BA := List D → Option D
def rDA (K : PySem.W.Frag) (g : BA) : List V → Hp → VK → Prop := fun xs H Q => ∃ G ds d, g ds = some d ∧ Same G H ∧ RepL K G ds xs ∧ ∀ v G' H', Stp G H G' H' → Rep K G' d v → Q v H'
def eFn (g : BA) (a : As) : E := fun δ => (a δ).bind fun xs => R.ofO (g xs)
section
variable {X : Cx} {C : Cc} {pos p : Pos} {x : Str} {id T : String} {e : Expr} {es : List Expr} {fa : As} {g : BA}
theorem lift_fn {K : PySem.W.Frag} {σ : L2.St} {H : Hp} {Q : VK} (h : liftE K C (eFn g fa) σ H Q) : tCB (rDA K g) (liftA K C fa) σ H Q := by
  obtain ⟨δ, G, re, h⟩ := h
  refine ⟨δ, G, re, onA_mono (onA_AR h) fun d v G1 H1 s1 r1 h1 => ?_⟩
  cases e : g d with
  | none => rw [e] at h1; exact h1.elim
  | some z =>
    rw [e] at h1
    exact ⟨G1, d, z, e, s1.sub, r1, h1⟩
theorem se_callB (hc : CallR X (.builtin id) (rDA X.K g)) (hg : Gl X x) (hm : X.mg x = none) (hv : bootBuiltins x = some (.builtin id)) (ha : SA X C (e :: es) fa) (hn : x ≠ "__name__" := by decide) (hdb : (x == ("__debug__" : Str)) = false := by decide)
    (he : starEach (e :: es) X.env = (false, eval e X.env) :: starEach es X.env := by rfl) (hpl : (backTo pos (starEach es X.env)).any (·.1) = false := by rfl) : SE X C (.Call (.Name x p) (e :: es) [] pos) (eFn g fa) :=
  pe_weak (pe_callB hc hg hm hv ha hn hdb he hpl) fun σ H Q h => lift_fn h
theorem se_callT (hc : CallR X (.type T) (rDA X.K g)) (hg : Gl X x) (hm : X.mg x = none) (hv : bootBuiltins x = some (.type T)) (ha : SA X C (e :: es) fa) (hn : x ≠ "__name__" := by decide) (hdb : (x == ("__debug__" : Str)) = false := by decide)
    (he : starEach (e :: es) X.env = (false, eval e X.env) :: starEach es X.env := by rfl) (hpl : (backTo pos (starEach es X.env)).any (·.1) = false := by rfl) : SE X C (.Call (.Name x p) (e :: es) [] pos) (eFn g fa) :=
  pe_weak (pe_callTy hc hg hm hv ha hn hdb he hpl) fun σ H Q h => lift_fn h

def gLen : BA
  | [.lst xs] => some (.int xs.length)
  | [.tup xs] => some (.int xs.length)
  | [.str x] => if x.length ≤ sizeLine then some (.int x.length) else none
  | _ => none
def gMin2 : BA
  | [.int i, .int j] => some (.int (if j < i then j else i))
  | _ => none
def gMax2 : BA
  | [.int i, .int j] => some (.int (if j > i then j else i))
  | _ => none
def gAbs : BA
  | [.int i] => some (.int (if i < 0 then -i else i))
  | _ => none
def gInt : BA
  | [.int i] => some (.int i)
  | [.bl k] => some (.int (if k then 1 else 0))
  | [.str a] => match PySem.intText? a with
    | some n => if a.length ≤ 640 then some (.int n) else none
    | none => none
  | _ => none
def gStr : BA
  | [.int i] => if i.natAbs.log2 < 1920 then some (.str (toString i)) else none
  | _ => none
def gList : BA
  | [.lst xs] => some (.lst xs)
  | [.tup xs] => some (.lst xs)
  | _ => none
def gTuple : BA
  | [.lst xs] => some (.tup xs)
  | [.tup xs] => some (.tup xs)
  | _ => none
def gDivmod : BA
  | [.int i, .int j] => if 0 < j ∧ Builtin.divisionGoesByPylong i j = false then some (.tup [.int (i / j), .int (i % j)]) else none
  | _ => none
def intsOf : List D → Option (List Int)
  | [] => some []
  | .int i :: r => (intsOf r).map (i :: ·)
  | _ => none
def blsOf : List D → Option (List Bool)
  | [] => some []
  | .bl i :: r => (blsOf r).map (i :: ·)
  | _ => none
def strsOf : List D → Option (List Str)
  | [] => some []
  | .str i :: r => (strsOf r).map (i :: ·)
  | _ => none
theorem intsOf_eq : ∀ {ds : List D} {ns : List Int}, intsOf ds = some ns → ds = ns.map D.int
  | [], _, e => by simp only [intsOf, Option.some.injEq] at e; subst e; rfl
  | .int i :: r, ns, e => by
    simp only [intsOf] at e
    cases q : intsOf r with
    | none => rw [q] at e; exact nomatch e
    | some ms => rw [q] at e; simp only [Option.map_some, Option.some.injEq] at e; subst e; rw [intsOf_eq q]; rfl
  | .non :: _, _, e => nomatch e
  | .bl _ :: _, _, e => nomatch e
  | .str _ :: _, _, e => nomatch e
  | .tup _ :: _, _, e => nomatch e
  | .lst _ :: _, _, e => nomatch e
  | .fn _ :: _, _, e => nomatch e
  | .dct _ _ :: _, _, e => nomatch e
theorem blsOf_eq : ∀ {ds : List D} {ns : List Bool}, blsOf ds = some ns → ds = ns.map D.bl
  | [], _, e => by simp only [blsOf, Option.some.injEq] at e; subst e; rfl
  | .bl i :: r, ns, e => by
    simp only [blsOf] at e
    cases q : blsOf r with
    | none => rw [q] at e; exact nomatch e
    | some ms => rw [q] at e; simp only [Option.map_some, Option.some.injEq] at e; subst e; rw [blsOf_eq q]; rfl
  | .non :: _, _, e => nomatch e
  | .int _ :: _, _, e => nomatch e
  | .str _ :: _, _, e => nomatch e
  | .tup _ :: _, _, e => nomatch e
  | .lst _ :: _, _, e => nomatch e
  | .fn _ :: _, _, e => nomatch e
  | .dct _ _ :: _, _, e => nomatch e
theorem strsOf_eq : ∀ {ds : List D} {ns : List Str}, strsOf ds = some ns → ds = ns.map D.str
  | [], _, e => by simp only [strsOf, Option.some.injEq] at e; subst e; rfl
  | .str i :: r, ns, e => by
    simp only [strsOf] at e
    cases q : strsOf r with
    | none => rw [q] at e; exact nomatch e
    | some ms => rw [q] at e; simp only [Option.map_some, Option.some.injEq] at e; subst e; rw [strsOf_eq q]; rfl
  | .non :: _, _, e => nomatch e
  | .int _ :: _, _, e => nomatch e
  | .bl _ :: _, _, e => nomatch e
  | .tup _ :: _, _, e => nomatch e
  | .lst _ :: _, _, e => nomatch e
  | .fn _ :: _, _, e => nomatch e
  | .dct _ _ :: _, _, e => nomatch e
theorem intsOf_map : ∀ ns : List Int, intsOf (ns.map D.int) = some ns
  | [] => rfl
  | n :: r => by simp only [List.map_cons, intsOf, intsOf_map r, Option.map_some]
theorem blsOf_map : ∀ ns : List Bool, blsOf (ns.map D.bl) = some ns
  | [] => rfl
  | n :: r => by simp only [List.map_cons, blsOf, blsOf_map r, Option.map_some]
theorem strsOf_map : ∀ ns : List Str, strsOf (ns.map D.str) = some ns
  | [] => rfl
  | n :: r => by simp only [List.map_cons, strsOf, strsOf_map r, Option.map_some]
def gSum : BA
  | [.lst xs] => (intsOf xs).map fun ns => .int ns.sum
  | _ => none
def gAll : BA
  | [.lst xs] => (blsOf xs).map fun ns => .bl (ns.all fun b => b)
  | _ => none
def gAny : BA
  | [.lst xs] => (blsOf xs).map fun ns => .bl (ns.any fun b => b)
  | _ => none
def gMin : BA
  | [.lst xs] => (intsOf xs).bind fun ns => ns.min?.map .int
  | _ => none
def gMax : BA
  | [.lst xs] => (intsOf xs).bind fun ns => ns.max?.map .int
  | _ => none
theorem b_len : CallR X (.builtin "len") (rDA X.K gLen) := by
  intro pins s σ H xs us Q I r h
  obtain ⟨G, ds, d, e, sub, rl, h⟩ := h
  unfold gLen at e
  split at e
  · cases rl with
    | cons r1 r2 =>
      cases r2
      cases r1 with
      | lst p q =>
        simp only [Option.some.injEq] at e
        subst e
        refine call_len_seq pins s σ H _ us Q I r ⟨_, _, rfl, .inl (sub.seq p), ?_⟩
        rw [← q.length]
        exact h _ G H (Stp.refl sub) (.int _)
  · cases rl with
    | cons r1 r2 =>
      cases r2
      cases r1 with
      | tup p q =>
        simp only [Option.some.injEq] at e
        subst e
        refine call_len_seq pins s σ H _ us Q I r ⟨_, _, rfl, .inr (sqt_mono sub p), ?_⟩
        rw [← q.length]
        exact h _ G H (Stp.refl sub) (.int _)
  · cases rl with
    | cons r1 r2 =>
      cases r2
      cases r1
      split at e
      · rename_i hz
        simp only [Option.some.injEq] at e
        subst e
        exact call_len_str pins s σ H _ us Q I r ⟨_, rfl, hz, h _ G H (Stp.refl sub) (.int _)⟩
      · exact nomatch e
  · exact nomatch e
theorem b_min2 (hc : X.calm = true) : CallR X (.builtin "min") (rDA X.K gMin2) := by
  intro pins s σ H xs us Q I r h
  obtain ⟨G, ds, d, e, sub, rl, h⟩ := h
  unfold gMin2 at e
  split at e
  · cases rl with
    | cons r1 r2 =>
      cases r2 with
      | cons r2 r3 =>
        cases r1; cases r2; cases r3
        simp only [Option.some.injEq] at e
        subst e
        exact call_min2 hc pins s σ H _ us Q I r ⟨_, _, rfl, h _ G H (Stp.refl sub) (.int _)⟩
  · exact nomatch e
theorem b_max2 (hc : X.calm = true) : CallR X (.builtin "max") (rDA X.K gMax2) := by
  intro pins s σ H xs us Q I r h
  obtain ⟨G, ds, d, e, sub, rl, h⟩ := h
  unfold gMax2 at e
  split at e
  · cases rl with
    | cons r1 r2 =>
      cases r2 with
      | cons r2 r3 =>
        cases r1; cases r2; cases r3
        simp only [Option.some.injEq] at e
        subst e
        exact call_max2 hc pins s σ H _ us Q I r ⟨_, _, rfl, h _ G H (Stp.refl sub) (.int _)⟩
  · exact nomatch e
theorem b_abs : CallR X (.builtin "abs") (rDA X.K gAbs) := by
  intro pins s σ H xs us Q I r h
  obtain ⟨G, ds, d, e, sub, rl, h⟩ := h
  unfold gAbs at e
  split at e
  · cases rl with
    | cons r1 r2 =>
      cases r1; cases r2
      simp only [Option.some.injEq] at e
      subst e
      exact call_abs pins s σ H _ us Q I r ⟨_, rfl, h _ G H (Stp.refl sub) (.int _)⟩
  · exact nomatch e
theorem b_int : CallR X (.type "int") (rDA X.K gInt) := by
  intro pins s σ H xs us Q I r h
  obtain ⟨G, ds, d, e, sub, rl, h⟩ := h
  unfold gInt at e
  split at e
  · cases rl with
    | cons r1 r2 =>
      cases r1; cases r2
      simp only [Option.some.injEq] at e
      subst e
      exact call_int1 pins s σ H _ us Q I r (.inl ⟨_, rfl, h _ G H (Stp.refl sub) (.int _)⟩)
  · cases rl with
    | cons r1 r2 =>
      cases r1; cases r2
      simp only [Option.some.injEq] at e
      subst e
      exact call_int1 pins s σ H _ us Q I r (.inr ⟨_, rfl, h _ G H (Stp.refl sub) (.int _)⟩)
  · cases rl with
    | cons r1 r2 =>
      cases r1; cases r2
      split at e
      · rename_i n hn
        split at e
        · rename_i hz
          simp only [Option.some.injEq] at e
          subst e
          exact call_int_str pins s σ H _ us Q I r ⟨_, n, rfl, hn, hz, h _ G H (Stp.refl sub) (.int _)⟩
        · exact nomatch e
      · exact nomatch e
  · exact nomatch e
theorem b_str : CallR X (.type "str") (rDA X.K gStr) := by
  intro pins s σ H xs us Q I r h
  obtain ⟨G, ds, d, e, sub, rl, h⟩ := h
  unfold gStr at e
  split at e
  · cases rl with
    | cons r1 r2 =>
      cases r1; cases r2
      split at e
      · rename_i hz
        simp only [Option.some.injEq] at e
        subst e
        exact call_str_int pins s σ H _ us Q I r ⟨_, rfl, hz, h _ G H (Stp.refl sub) (.str _)⟩
      · exact nomatch e
  · exact nomatch e
theorem b_list : CallR X (.type "list") (rDA X.K gList) := by
  intro pins s σ H xs us Q I r h
  obtain ⟨G, ds, d, e, sub, rl, h⟩ := h
  unfold gList at e
  split at e
  · cases rl with
    | cons r1 r2 =>
      cases r2
      cases r1 with
      | lst p q =>
        simp only [Option.some.injEq] at e
        subst e
        exact call_list_of pins s σ H _ us Q I r ⟨_, _, rfl, .inl (sub.seq p), fun c hc => h _ _ _ (Stp.new sub hc _) (.lst (SqL.of upd_same) (q.mono (same_new (sub.free hc) _)))⟩
  · cases rl with
    | cons r1 r2 =>
      cases r2
      cases r1 with
      | tup p q =>
        simp only [Option.some.injEq] at e
        subst e
        exact call_list_of pins s σ H _ us Q I r ⟨_, _, rfl, .inr (sqt_mono sub p), fun c hc => h _ _ _ (Stp.new sub hc _) (.lst (SqL.of upd_same) (q.mono (same_new (sub.free hc) _)))⟩
  · exact nomatch e
theorem b_tuple : CallR X (.type "tuple") (rDA X.K gTuple) := by
  intro pins s σ H xs us Q I r h
  obtain ⟨G, ds, d, e, sub, rl, h⟩ := h
  unfold gTuple at e
  split at e
  · cases rl with
    | cons r1 r2 =>
      cases r2
      cases r1 with
      | lst p q =>
        simp only [Option.some.injEq] at e
        subst e
        exact call_tuple_of pins s σ H _ us Q I r ⟨_, _, rfl, .inl ⟨sub.seq p, fun c hc => h _ _ _ (Stp.new sub hc _) (.tup (SqT.of upd_same) (q.mono (same_new (sub.free hc) _)))⟩⟩
  · cases rl with
    | cons r1 r2 =>
      cases r2
      cases r1 with
      | tup p q =>
        simp only [Option.some.injEq] at e
        subst e
        exact call_tuple_of pins s σ H _ us Q I r ⟨_, _, rfl, .inr ⟨sqt_mono sub p, h _ G H (Stp.refl sub) (.tup p q)⟩⟩
  · exact nomatch e
theorem b_divmod : CallR X (.builtin "divmod") (rDA X.K gDivmod) := by
  intro pins s σ H xs us Q I r h
  obtain ⟨G, ds, d, e, sub, rl, h⟩ := h
  unfold gDivmod at e
  split at e
  · cases rl with
    | cons r1 r2 =>
      cases r2 with
      | cons r2 r3 =>
        cases r1; cases r2; cases r3
        split at e
        · rename_i hz
          simp only [Option.some.injEq] at e
          subst e
          exact call_divmodW pins s σ H _ us Q I r ⟨_, _, rfl, hz, fun c hc => h _ _ _ (Stp.new sub hc _) (.tup (SqT.of upd_same) (.cons (.int _) (.cons (.int _) .nil)))⟩
        · exact nomatch e
  · exact nomatch e
theorem b_sum (hc : X.calm = true) : CallR X (.builtin "sum") (rDA X.K gSum) := by
  intro pins s σ H xs us Q I r h
  obtain ⟨G, ds, d, e, sub, rl, h⟩ := h
  unfold gSum at e
  split at e
  · rename_i ys
    cases q1 : intsOf ys with
    | none => rw [q1] at e; exact nomatch e
    | some ns =>
      rw [q1] at e
      simp only [Option.map_some, Option.some.injEq] at e
      subst e
      have e2 := intsOf_eq q1
      subst e2
      cases rl with
      | cons r1 r2 =>
        cases r2
        cases r1 with
        | lst p q =>
          have e3 := RepL.of_ints q
          subst e3
          exact cr_sum hc pins s σ H _ us Q I r ⟨_, ns, rfl, sub.seq p, h _ G H (Stp.refl sub) (.int _)⟩
  · exact nomatch e
theorem b_all (hc : X.calm = true) : CallR X (.builtin "all") (rDA X.K gAll) := by
  intro pins s σ H xs us Q I r h
  obtain ⟨G, ds, d, e, sub, rl, h⟩ := h
  unfold gAll at e
  split at e
  · rename_i ys
    cases q1 : blsOf ys with
    | none => rw [q1] at e; exact nomatch e
    | some ns =>
      rw [q1] at e
      simp only [Option.map_some, Option.some.injEq] at e
      subst e
      have e2 := blsOf_eq q1
      subst e2
      cases rl with
      | cons r1 r2 =>
        cases r2
        cases r1 with
        | lst p q =>
          have e3 := RepL.of_bls q
          subst e3
          exact cr_all hc pins s σ H _ us Q I r ⟨_, ns, rfl, sub.seq p, h _ G H (Stp.refl sub) (.bl _)⟩
  · exact nomatch e
theorem b_any (hc : X.calm = true) : CallR X (.builtin "any") (rDA X.K gAny) := by
  intro pins s σ H xs us Q I r h
  obtain ⟨G, ds, d, e, sub, rl, h⟩ := h
  unfold gAny at e
  split at e
  · rename_i ys
    cases q1 : blsOf ys with
    | none => rw [q1] at e; exact nomatch e
    | some ns =>
      rw [q1] at e
      simp only [Option.map_some, Option.some.injEq] at e
      subst e
      have e2 := blsOf_eq q1
      subst e2
      cases rl with
      | cons r1 r2 =>
        cases r2
        cases r1 with
        | lst p q =>
          have e3 := RepL.of_bls q
          subst e3
          exact cr_any hc pins s σ H _ us Q I r ⟨_, ns, rfl, sub.seq p, h _ G H (Stp.refl sub) (.bl _)⟩
  · exact nomatch e
end
end Fs

/-! F4: items, slices, isinstance, methods of texts. -/
namespace Fs
open PySem L2

/-! ### items -/
theorem RepL.atI {K : PySem.W.Frag} {G : Hp} {ds : List D} {vs : List V} {i : Int} {d : D} (r : RepL K G ds vs) (e : L2.atI ds i = some d) : ∃ v, L2.atI vs i = some v ∧ Rep K G d v := by
  unfold L2.atI at e ⊢
  rw [r.length] at e
  cases q : ixN vs.length i with
  | none => rw [q] at e; exact nomatch e
  | some j => rw [q] at e; exact r.get e
def gIx : B2
  | .lst xs, .int i => atI xs i
  | .tup xs, .int i => atI xs i
  | .str z, .int i => if z.length ≤ sizeLine then (atI z.cps.toList i).map fun c => .str ⟨#[c]⟩ else none
  | _, _ => none
section
variable {X : Cx} {C : Cc} {pos p2 : Pos} {a b : Expr} {fa fb : E}
theorem x_ix : IxR X (rD X.K gIx) := by
  intro value slice pins s σ H x y v u Q I rx ry h hs
  obtain ⟨G, dx, dy, d, e, sub, r1, r2, h⟩ := h
  cases r1 with
  | lst p q =>
    cases r2 <;> simp only [gIx, reduceCtorEq] at e
    obtain ⟨v', e1, r3⟩ := q.atI e
    exact ix_list value slice pins s σ H _ _ v u Q I rx ry ⟨_, _, _, _, rfl, rfl, sub.seq p, e1, h _ G H (Stp.refl sub) r3⟩ hs
  | tup p q =>
    cases r2 <;> simp only [gIx, reduceCtorEq] at e
    obtain ⟨v', e1, r3⟩ := q.atI e
    exact ix_tup value slice pins s σ H _ _ v u Q I rx ry ⟨_, _, _, _, rfl, rfl, sqt_mono sub p, e1, h _ G H (Stp.refl sub) r3⟩ hs
  | str z =>
    cases r2 <;> simp only [gIx, reduceCtorEq] at e
    split at e
    · rename_i hz
      cases q : atI z.cps.toList _ with
      | none => rw [q] at e; exact nomatch e
      | some c =>
        rw [q] at e
        simp only [Option.map_some, Option.some.injEq] at e
        subst e
        exact ix_str value slice pins s σ H _ _ v u Q I rx ry ⟨_, _, c, rfl, rfl, hz, q, h _ G H (Stp.refl sub) (.str _)⟩ hs
    · exact nomatch e
  | non => cases r2 <;> simp only [gIx, reduceCtorEq] at e
  | bl b => cases r2 <;> simp only [gIx, reduceCtorEq] at e
  | int b => cases r2 <;> simp only [gIx, reduceCtorEq] at e
  | fn a => cases r2 <;> simp only [gIx, reduceCtorEq] at e
  | dct p l q => cases r2 <;> simp only [gIx, reduceCtorEq] at e
theorem se_ix (ha : SE X C a fa) (hb : SE X C b fb) (hs : PlainIx b := by intro _ _; rfl) : SE X C (.Subscript a b pos) (eBin gIx fa fb) := pe_weak (pe_ix x_ix ha hb hs) fun σ H Q h => lift_bin h

/-! ### slices -/
abbrev Os := Sl → R (Option Int)
def onO (K : PySem.W.Frag) (C : Cc) (σ : L2.St) (G H : Hp) (r : R (Option Int)) (P : Option Int → Hp → Hp → Prop) : Prop := match r with
  | .ok b => ∀ G' H', Stp G H G' H' → P b G' H'
  | .exc e => onX K C σ G H e
  | .stk => False
def liftO (K : PySem.W.Frag) (C : Cc) (f : Os) : TO := fun σ H Q => ∃ δ G, RE K C σ δ G H ∧ onO K C σ G H (f δ) fun b _ H' => Q b H'
abbrev SO (X : Cx) (C : Cc) (e : Option Expr) (f : Os) : Prop := PO X e (liftO X.K C f)
theorem po_weak {X : Cx} {e : Option Expr} {t t' : TO} (h : PO X e t) (w : ∀ σ H Q, t' σ H Q → t σ H Q) : PO X e t' := ⟨fun pins s σ H Q I z => h.run pins s σ H Q I (w σ H Q z)⟩
def oNone : Os := fun _ => .ok none
def oSome (f : E) : Os := fun δ => (f δ).bind fun d => match d with
  | .int i => .ok (some i)
  | _ => .stk
theorem onO_mono {K : PySem.W.Frag} {σ : L2.St} {G H : Hp} {r : R (Option Int)} {P P' : Option Int → Hp → Hp → Prop} (h : onO K C σ G H r P) (w : ∀ b G' H', Stp G H G' H' → P b G' H' → P' b G' H') : onO K C σ G H r P' := by
  cases r with
  | ok d => exact fun G' H' s => w d G' H' s (h G' H' s)
  | exc e => exact h
  | stk => exact h
theorem onR_RO {K : PySem.W.Frag} {σ : L2.St} {G H : Hp} {r : R D} {k : D → R (Option Int)} {P : Option Int → Hp → Hp → Prop} (h : onO K C σ G H (r.bind k) P) : onR K C σ G H r fun d _ G1 H1 => onO K C σ G1 H1 (k d) P := by
  cases r with
  | ok d =>
    intro v G1 H1 s q
    have h' : onO K C σ G H (k d) P := h
    show onO K C σ G1 H1 (k d) P
    cases e : k d with
    | ok d2 => rw [e] at h'; exact fun G2 H2 s2 => h' G2 H2 (s.trans s2)
    | exc e2 => rw [e] at h'; exact onX_step h' s
    | stk => rw [e] at h'; exact h'
  | exc e => exact h
  | stk => exact h
theorem onO_OR {K : PySem.W.Frag} {σ : L2.St} {G H : Hp} {r : R (Option Int)} {k : Option Int → R D} {P : D → V → Hp → Hp → Prop} (h : onR K C σ G H (r.bind k) P) : onO K C σ G H r fun d G1 H1 => onR K C σ G1 H1 (k d) P := by
  cases r with
  | ok d =>
    intro G1 H1 s
    have h' : onR K C σ G H (k d) P := h
    show onR K C σ G1 H1 (k d) P
    cases e : k d with
    | ok d2 => rw [e] at h'; exact fun v2 G2 H2 s2 q2 => h' v2 G2 H2 (s.trans s2) q2
    | exc e2 => rw [e] at h'; exact onX_step h' s
    | stk => rw [e] at h'; exact h'
  | exc e => exact h
  | stk => exact h
theorem so_none : SO X C none oNone := po_weak po_none fun σ H Q ⟨δ, G, re, h⟩ => h G H (Stp.refl re.sub)
theorem so_some (ha : SE X C a fa) : SO X C (some a) (oSome fa) := po_weak (po_some ha) fun σ H Q ⟨δ, G, re, h⟩ =>
  ⟨δ, G, re, onR_mono (onR_RO h) fun d v G1 H1 s1 r1 h1 => by
    cases r1 with
    | int i => exact ⟨i, rfl, h1 G1 H1 (Stp.refl s1.sub)⟩
    | non => exact h1.elim
    | bl b => exact h1.elim
    | str x => exact h1.elim
    | fn x => exact h1.elim
    | dct p l q => exact h1.elim
    | tup p q => exact h1.elim
    | lst p q => exact h1.elim⟩
def cutD (xs : List D) (lo hi : Option Int) : List D := (xs.drop (HT.sIx xs.length 0 lo)).take (HT.sIx xs.length xs.length hi - HT.sIx xs.length 0 lo)
theorem RepL.cut {K : PySem.W.Frag} {G : Hp} {ds : List D} {vs : List V} (r : RepL K G ds vs) (lo hi : Option Int) : RepL K G (cutD ds lo hi) (cutV vs lo hi) := by
  unfold cutD cutV
  rw [r.length]
  exact (r.drop _).take _
def gSl : D → Option Int → Option Int → Option D
  | .lst xs, lo, hi => some (.lst (cutD xs lo hi))
  | .tup xs, lo, hi => some (.tup (cutD xs lo hi))
  | .str z, lo, hi => if z.length ≤ sizeLine then some (.str (cutS z lo hi)) else none
  | _, _, _ => none
def rDS (K : PySem.W.Frag) (g : D → Option Int → Option Int → Option D) : V → Option Int → Option Int → Hp → VK → Prop := fun x lo hi H Q => ∃ G dx d, g dx lo hi = some d ∧ Same G H ∧ Rep K G dx x ∧ ∀ v G' H', Stp G H G' H' → Rep K G' d v → Q v H'
theorem s_sl : SlR X (rDS X.K gSl) := by
  intro pins s σ H x v vl vu lo hi sl Q I rx hs pl pu h
  obtain ⟨G, dx, d, e, sub, r1, h⟩ := h
  cases r1 with
  | lst p q =>
    simp only [gSl, Option.some.injEq] at e
    subst e
    exact sl_list pins s σ H _ v vl vu lo hi sl Q I rx hs pl pu ⟨_, _, rfl, sub.seq p, fun c hc => h _ _ _ (Stp.new sub hc _) (.lst (SqL.of upd_same) ((q.cut lo hi).mono (same_new (sub.free hc) _)))⟩
  | @tup c0 vs0 ds0 p q =>
    simp only [gSl, Option.some.injEq] at e
    subst e
    refine sl_tupA pins s σ H _ v vl vu lo hi sl Q I rx hs pl pu ⟨_, _, rfl, sqt_mono sub p, fun z => ?_, fun _ c hc => h _ _ _ (Stp.new sub hc _) (.tup (SqT.of upd_same) ((q.cut lo hi).mono (same_new (sub.free hc) _)))⟩
    refine h _ G H (Stp.refl sub) (.tup p ?_)
    have e2 := q.cut lo hi
    have e3 : cutV vs0 lo hi = vs0 := by
      unfold cutV
      rw [z.1, z.2, Nat.sub_zero, List.drop_zero, List.take_length]
    rw [e3] at e2
    exact e2
  | str z =>
    simp only [gSl] at e
    split at e
    · rename_i hz
      simp only [Option.some.injEq] at e
      subst e
      exact sl_str pins s σ H _ v vl vu lo hi sl Q I rx hs pl pu ⟨_, rfl, hz, h _ G H (Stp.refl sub) (.str _)⟩
    · exact nomatch e
  | non => simp only [gSl, reduceCtorEq] at e
  | bl b => simp only [gSl, reduceCtorEq] at e
  | int b => simp only [gSl, reduceCtorEq] at e
  | fn a => simp only [gSl, reduceCtorEq] at e
  | dct p l q => simp only [gSl, reduceCtorEq] at e
def eSl (a : E) (lo hi : Os) : E := fun δ => (a δ).bind fun x => (lo δ).bind fun l => (hi δ).bind fun h => R.ofO (gSl x l h)
theorem se_sl {lo hi : Option Expr} {fl fh : Os} (ha : SE X C a fa) (hl : SO X C lo fl) (hh : SO X C hi fh) : SE X C (.Subscript a (.Slice lo hi none p2) pos) (eSl fa fl fh) :=
  pe_weak (pe_slice s_sl ha hl hh) fun σ H Q ⟨δ, G, re, h⟩ => by
    refine ⟨δ, G, re, onR_mono (onR_RR h) fun d v G1 H1 s1 r1 h1 => ?_⟩
    refine ⟨δ, G1, re.step s1, onO_mono (onO_OR h1) fun l G2 H2 s2 h2 => ?_⟩
    refine ⟨δ, G2, (re.step s1).step s2, onO_mono (onO_OR h2) fun u G3 H3 s3 h3 => ?_⟩
    cases e : gSl d l u with
    | none => rw [e] at h3; exact h3.elim
    | some z =>
      rw [e] at h3
      exact ⟨G3, d, z, e, s3.sub, (r1.mono s2.g).mono s3.g, h3⟩
/-- xs[::-1] -/
def gRev : B1
  | .lst xs => some (.lst xs.reverse)
  | _ => none
theorem se_rev {k : Nat} {p1 p3 p4 : Pos} (ha : SE X C a fa) : SE X C (.Subscript a (.Slice none none (some (.UnaryOp .USub (.Constant (.int 1) k p1) p3)) p4) pos) (eUn gRev fa) :=
  pe_weak (pe_revL ha) fun σ H Q h => by
    have h1 := lift_un h
    obtain ⟨δ, G, re, h1⟩ := h1
    refine ⟨δ, G, re, onR_mono h1 fun d v G1 H1 s1 r1 h2 => ?_⟩
    obtain ⟨G2, dx, d2, e, sub, r2, h2⟩ := h2
    cases r2 <;> simp only [gRev, Option.some.injEq, reduceCtorEq] at e
    rename_i c vs ds p q
    subst e
    exact ⟨_, _, rfl, sub.seq p, fun l hl => h2 _ _ _ (Stp.new sub hl _) (.lst (SqL.of upd_same) (q.reverse.mono (same_new (sub.free hl) _)))⟩

/-! ### isinstance -/
def tyN : D → Option String
  | .non => some "NoneType"
  | .bl _ => some "bool"
  | .int _ => some "int"
  | .str _ => some "str"
  | .tup _ => some "tuple"
  | .lst _ => some "list"
  | .fn _ => none
  | .dct _ _ => some "dict"
theorem Rep.tyx {K : PySem.W.Frag} {G H : Hp} (sub : Same G H) {d : D} {v : V} {n : String} (r : Rep K G d v) (e : tyN d = some n) : TyX K H v (.type n) := by
  cases r <;> simp only [tyN, Option.some.injEq, reduceCtorEq] at e <;> subst e
  · exact .base .non
  · exact .base (.bl _)
  · exact .base (.int _)
  · exact .base (.str _)
  · rename_i a vs ds h r
    rcases sqt_mono sub h with (h | ⟨o, h⟩) | ⟨o, its, m, h, c, _⟩
    · exact .base (.tup h)
    · exact .fTuple h
    · exact .kTuple h c
  · rename_i a vs ds h r
    rcases sub.seq h with (h | ⟨o, h⟩) | ⟨o, its, m, h, c, _⟩
    · exact .base (.lst h)
    · exact .base (.frz h)
    · exact .kList h c
  · rename_i a vs ks ds h l r
    exact .base (.dK (sub _ _ h))
/-- the built-in class n of a datum's class -/
def isTy : String → String → Bool
  | "bool", "int" => true
  | a, b => a == b
def gIsi (n : String) : B1 := fun d => (tyN d).map fun t => .bl (isTy t n)
def okTy (n : String) : Bool := ["NoneType", "bool", "int", "str", "tuple", "list", "dict"].all fun t => decide (kitB t n = some (isTy t n))
theorem tyN_mem {d : D} {t : String} (h : tyN d = some t) : t ∈ ["NoneType", "bool", "int", "str", "tuple", "list", "dict"] := by
  cases d <;> simp only [tyN, Option.some.injEq, reduceCtorEq] at h <;> subst h <;> simp
theorem se_isi {pf pn : Pos} {n : String} {nx : Str} (ha : SE X C a fa) (hg : Gl X "isinstance") (hm : X.mg "isinstance" = none) (hgn : Gl X nx) (hmn : X.mg nx = none) (hv : bootBuiltins nx = some (.type n)) (hk : okTy n = true := by decide +kernel)
    (hn : nx ≠ "__name__" := by decide) (hd : (nx == ("__debug__" : Str)) = false := by decide) (hvi : bootBuiltins "isinstance" = some (.builtin "isinstance") := by decide +kernel)
    (hs : starEach [a, .Name nx pn] X.env = (false, eval a X.env) :: starEach [.Name nx pn] X.env := by rfl) (hpl : (backTo pos (starEach [.Name nx pn] X.env)).any (·.1) = false := by rfl)
    (hs2 : starEach [.Name nx pn] X.env = (false, eval (.Name nx pn) X.env) :: starEach [] X.env := by rfl) :
    SE X C (.Call (.Name "isinstance" pf) [a, .Name nx pn] [] pos) (eUn (gIsi n) fa) :=
  pe_weak (pe_callB call_isi hg hm hvi (pa_cons ha (pa_cons (pe_bltn (v := .ty n) hgn hmn hv rfl hn hd) pa_nil hs2) hs) (by decide) (by decide) hs hpl) fun σ H Q h => by
    obtain ⟨δ, G, re, h1⟩ := lift_un h
    refine ⟨δ, G, re, onR_mono h1 fun d v G1 H1 s1 r1 h2 => ?_⟩
    obtain ⟨G2, dx, d2, e, sub, r2, h2⟩ := h2
    unfold gIsi at e
    cases q : tyN dx with
    | none => rw [q] at e; exact nomatch e
    | some t =>
      rw [q] at e
      simp only [Option.map_some, Option.some.injEq] at e
      subst e
      have z : kitB t n = some (isTy t n) := of_decide_eq_true (List.all_eq_true.mp hk t (tyN_mem q))
      exact ⟨v, .ty n, .type t, .type n, isTy t n, rfl, .ty n, r2.tyx sub q, kit_ty z, h2 _ G2 H1 (Stp.refl sub) (.bl _)⟩
/-- isinstance(x, (T, U)) -/
def gIsi2 (n m : String) : B1 := fun d => (tyN d).map fun t => .bl (isTy t n || isTy t m)
theorem se_isi2 {pf pn pm pt : Pos} {kt : Nat} {n m : String} {nx mx : Str} (ha : SE X C a fa) (hg : Gl X "isinstance") (hm : X.mg "isinstance" = none) (hgn : Gl X nx) (hmn : X.mg nx = none) (hv : bootBuiltins nx = some (.type n)) (hgm : Gl X mx) (hmm : X.mg mx = none) (hvm : bootBuiltins mx = some (.type m)) (hk : okTy n = true := by decide +kernel) (hk2 : okTy m = true := by decide +kernel)
    (hn : nx ≠ "__name__" := by decide) (hd : (nx == ("__debug__" : Str)) = false := by decide) (hn2 : mx ≠ "__name__" := by decide) (hd2 : (mx == ("__debug__" : Str)) = false := by decide) (hvi : bootBuiltins "isinstance" = some (.builtin "isinstance") := by decide +kernel)
    (hs : starEach [a, .Tuple [.Name nx pn, .Name mx pm] kt pt] X.env = (false, eval a X.env) :: starEach [.Tuple [.Name nx pn, .Name mx pm] kt pt] X.env := by rfl) (hpl : (backTo pos (starEach [.Tuple [.Name nx pn, .Name mx pm] kt pt] X.env)).any (·.1) = false := by rfl)
    (hs2 : starEach [.Tuple [.Name nx pn, .Name mx pm] kt pt] X.env = (false, eval (.Tuple [.Name nx pn, .Name mx pm] kt pt) X.env) :: starEach [] X.env := by rfl)
    (hs3 : starEach [.Name nx pn, .Name mx pm] X.env = (false, eval (.Name nx pn) X.env) :: starEach [.Name mx pm] X.env := by rfl) (hs4 : starEach [.Name mx pm] X.env = (false, eval (.Name mx pm) X.env) :: starEach [] X.env := by rfl) :
    SE X C (.Call (.Name "isinstance" pf) [a, .Tuple [.Name nx pn, .Name mx pm] kt pt] [] pos) (eUn (gIsi2 n m) fa) :=
  pe_weak (pe_callB call_isiT hg hm hvi (pa_cons ha (pa_cons (pe_tup (pa_cons (pe_bltn (v := .ty n) hgn hmn hv rfl hn hd) (pa_cons (pe_bltn (v := .ty m) hgm hmm hvm rfl hn2 hd2) pa_nil hs4) hs3)) pa_nil hs2) hs) (by decide) (by decide) hs hpl) fun σ H Q h => by
    obtain ⟨δ, G, re, h1⟩ := lift_un h
    refine ⟨δ, G, re, onR_mono h1 fun d v G1 H1 s1 r1 h2 => ?_⟩
    obtain ⟨G2, dx, d2, e, sub, r2, h2⟩ := h2
    unfold gIsi2 at e
    cases q : tyN dx with
    | none => rw [q] at e; exact nomatch e
    | some t =>
      rw [q] at e
      simp only [Option.map_some, Option.some.injEq] at e
      subst e
      have z : kitB t n = some (isTy t n) := of_decide_eq_true (List.all_eq_true.mp hk t (tyN_mem q))
      have z2 : kitB t m = some (isTy t m) := of_decide_eq_true (List.all_eq_true.mp hk2 t (tyN_mem q))
      refine ⟨by show 2 ≤ sizeLine; decide, fun c hc => ?_⟩
      have ty := r2.tyx (sub.trans (same_new hc (.tup [V.ty n, V.ty m]))) q
      refine ⟨v, c, [.ty n, .ty m], .type t, [.type n, .type m], isTy t n || isTy t m, rfl, upd_same, .cons (.ty n) (.cons (.ty m) .nil), ty, ?_, h2 _ G2 _ (Stp.newH sub hc _) (.bl _)⟩
      refine kitAny_cons (kit_ty z) (fun b1 => ?_) (fun b1 => ?_)
      · rw [b1, Bool.false_or]
        exact kitAny_cons (kit_ty z2) (fun b2 => by rw [b2]; exact kitAny_nil) (fun b2 => b2)
      · rw [b1, Bool.true_or]

/-! ### methods of texts -/
def rDM (K : PySem.W.Frag) (g : D → List D → Option D) : V → List V → Hp → VK → Prop := fun x xs H Q => ∃ G dx ds d, g dx ds = some d ∧ Same G H ∧ Rep K G dx x ∧ RepL K G ds xs ∧ ∀ v G' H', Stp G H G' H' → Rep K G' d v → Q v H'
def isStr : D → Bool
  | .str _ => true
  | _ => false
def eM1 (g : D → List D → Option D) (o a : E) : E := fun δ => (o δ).bind fun x => if isStr x then (a δ).bind fun y => R.ofO (g x [y]) else .stk
theorem se_m1 {o : Expr} {fo : E} {g : D → List D → Option D} {id : String} {name : Str} {apos : Pos} (slot : PySem.Slot "str" name id) (ty : typeOf (.builtin id) = pure (.type "method_descriptor")) (rule : MtR X id (rDM X.K g)) (ho : SE X C o fo) (ha : SE X C a fa)
    (hs : starEach [a] X.env = [(false, eval a X.env)] := by rfl) (hbase : attributeBase o name X.env (eval o X.env) = eval o X.env := by rfl) (hline : (apos.endLine == pos.line) = true := by rfl) : SE X C (.Call (.Attribute o name apos) [a] [] pos) (eM1 g fo fa) :=
  pe_weak (pe_m1 slot ty rule ho ha hs hbase hline) fun σ H Q ⟨δ, G, re, h⟩ => by
    refine ⟨δ, G, re, onR_mono (onR_RR h) fun d v G1 H1 s1 r1 h1 => ?_⟩
    cases r1 with
    | str z =>
      refine ⟨⟨z, rfl⟩, δ, G1, re.step s1, onR_mono (onR_RR (show onR X.K C σ G1 H1 ((fa δ).bind fun y => R.ofO (g (.str z) [y])) _ from h1)) fun d2 v2 G2 H2 s2 r2 h2 => ?_⟩
      cases e : g (.str z) [d2] with
      | none => rw [e] at h2; exact h2.elim
      | some w =>
        rw [e] at h2
        exact ⟨G2, _, _, w, e, s2.sub, .str z, .cons r2 .nil, h2⟩
    | non => exact h1.elim
    | bl b => exact h1.elim
    | int b => exact h1.elim
    | fn b => exact h1.elim
    | dct p l q => exact h1.elim
    | tup p q => exact h1.elim
    | lst p q => exact h1.elim
def gFind : D → List D → Option D
  | .str a, [.str b] => some (.int (Txt.find a b))
  | _, _ => none
def gStarts : D → List D → Option D
  | .str a, [.str b] => some (.bl (Txt.startswith a b))
  | _, _ => none
def gPart : D → List D → Option D
  | .str a, [.str b] => if (b.length == 0) = false ∧ a.length ≤ sizeLine then some (.tup [.str (Txt.partition a b).1, .str (Txt.partition a b).2.1, .str (Txt.partition a b).2.2]) else none
  | _, _ => none
def gSplit : D → List D → Option D
  | .str a, [.str b] => if (b.length == 0) = false ∧ a.length + 2 ≤ sizeLine then some (.lst ((Txt.split a b).map .str)) else none
  | _, _ => none
def gJoin : D → List D → Option D
  | .str a, [.lst xs] => (strsOf xs).bind fun ys => if (ys.map (·.length)).sum + ys.length * a.length ≤ 16777216 then some (.str (Txt.join a ys)) else none
  | _, _ => none
theorem m_find : MtR X "str.find" (rDM X.K gFind) := by
  intro pins s σ H x xs v us Q I rx ru h
  obtain ⟨G, dx, ds, d, e, sub, r1, r2, h⟩ := h
  unfold gFind at e
  split at e
  · cases r1
    cases r2 with
    | cons r2 r3 =>
      cases r2; cases r3
      simp only [Option.some.injEq] at e
      subst e
      exact mt_find pins s σ H _ _ v us Q I rx ru ⟨_, _, rfl, rfl, h _ G H (Stp.refl sub) (.int _)⟩
  · exact nomatch e
theorem m_starts : MtR X "str.startswith" (rDM X.K gStarts) := by
  intro pins s σ H x xs v us Q I rx ru h
  obtain ⟨G, dx, ds, d, e, sub, r1, r2, h⟩ := h
  unfold gStarts at e
  split at e
  · cases r1
    cases r2 with
    | cons r2 r3 =>
      cases r2; cases r3
      simp only [Option.some.injEq] at e
      subst e
      exact mt_startswith pins s σ H _ _ v us Q I rx ru ⟨_, _, rfl, rfl, h _ G H (Stp.refl sub) (.bl _)⟩
  · exact nomatch e
theorem m_part : MtR X "str.partition" (rDM X.K gPart) := by
  intro pins s σ H x xs v us Q I rx ru h
  obtain ⟨G, dx, ds, d, e, sub, r1, r2, h⟩ := h
  unfold gPart at e
  split at e
  · cases r1
    cases r2 with
    | cons r2 r3 =>
      cases r2; cases r3
      split at e
      · rename_i hz
        simp only [Option.some.injEq] at e
        subst e
        exact mt_partition pins s σ H _ _ v us Q I rx ru ⟨_, _, rfl, rfl, hz.1, hz.2, fun c hc => h _ _ _ (Stp.new sub hc _) (.tup (SqT.of upd_same) (.cons (.str _) (.cons (.str _) (.cons (.str _) .nil))))⟩
      · exact nomatch e
  · exact nomatch e
theorem RepL.strs {K : PySem.W.Frag} {G : Hp} : ∀ ns : List Str, RepL K G (ns.map D.str) (ns.map V.str)
  | [] => .nil
  | n :: r => .cons (.str n) (RepL.strs r)
theorem m_split : MtR X "str.split" (rDM X.K gSplit) := by
  intro pins s σ H x xs v us Q I rx ru h
  obtain ⟨G, dx, ds, d, e, sub, r1, r2, h⟩ := h
  unfold gSplit at e
  split at e
  · cases r1
    cases r2 with
    | cons r2 r3 =>
      cases r2; cases r3
      split at e
      · rename_i hz
        simp only [Option.some.injEq] at e
        subst e
        exact mt_split pins s σ H _ _ v us Q I rx ru ⟨_, _, rfl, rfl, hz.1, hz.2, fun c hc => h _ _ _ (Stp.new sub hc _) (.lst (SqL.of upd_same) (RepL.strs _))⟩
      · exact nomatch e
  · exact nomatch e
theorem m_join : MtR X "str.join" (rDM X.K gJoin) := by
  intro pins s σ H x xs v us Q I rx ru h
  obtain ⟨G, dx, ds, d, e, sub, r1, r2, h⟩ := h
  unfold gJoin at e
  split at e
  · rename_i a ys
    cases q1 : strsOf ys with
    | none => rw [q1] at e; exact nomatch e
    | some ns =>
      rw [q1] at e
      simp only [Option.bind_some] at e
      have e2 := strsOf_eq q1
      subst e2
      split at e
      · rename_i hz
        simp only [Option.some.injEq] at e
        subst e
        cases r1
        cases r2 with
        | cons r2 r3 =>
          cases r3
          cases r2 with
          | lst p q =>
            have e3 := RepL.of_strs q
            subst e3
            exact mt_join pins s σ H _ _ v us Q I rx ru ⟨_, _, ns, rfl, rfl, .inl (sub.seq p), hz, h _ G H (Stp.refl sub) (.str _)⟩
      · exact nomatch e
  · exact nomatch e
end
end Fs

/-! F5: statements, targets, loops. -/
namespace Fs
open PySem L2

inductive RS where
  | nx (δ : Sl) | rt (d : D) | bk (δ : Sl) | ct (δ : Sl) | exc (e : Ex) (δ : Sl) | stk
abbrev S := Sl → RS
/-- what is due of what a def tells: with a list handed in to be changed, its data, too -/
def RT (K : PySem.W.Frag) (C : Cc) (d : D) (v : V) (G' H' : Hp) : Prop := match C.bor with
  | none => Stp C.G0 C.H0 G' H' ∧ Rep K G' d v
  | some p => ∃ d0 xs us, d = .tup [d0, .lst xs] ∧ Stp C.G0 C.H0 G' H' ∧ Rep K G' d0 v ∧ G' p = none ∧ H' p = some (.lst us) ∧ RepL K G' xs us
theorem RT.of {K : PySem.W.Frag} {C : Cc} {d : D} {v : V} {G' H' : Hp} (hC : C.bor = none) (s : Stp C.G0 C.H0 G' H') (r : Rep K G' d v) : RT K C d v G' H' := by
  unfold RT
  rw [hC]
  exact ⟨s, r⟩
def onS (K : PySem.W.Frag) (C : Cc) (G : Hp) (r : RS) (Dn : Ends) : Prop := match r with
  | .nx δ => ∀ σ' G' H', RE K C σ' δ G' H' → Same G G' → Dn.nx σ' H'
  | .bk δ => ∀ σ' G' H', RE K C σ' δ G' H' → Same G G' → Dn.bk σ' H'
  | .ct δ => ∀ σ' G' H', RE K C σ' δ G' H' → Same G G' → Dn.ct σ' H'
  | .rt d => ∀ v G' H', RT K C d v G' H' → Dn.rt v H'
  | .exc e δ => ∀ cls dd σ' G' H', RE K C σ' δ G' H' → Same G G' → RepX K C.ct G' H' e cls dd → C.W cls dd σ' H'
  | .stk => False
def liftS (K : PySem.W.Frag) (C : Cc) (f : S) : TS := fun Dn σ H => ∃ δ G, RE K C σ δ G H ∧ onS K C G (f δ) Dn
abbrev SS (X : Cx) (C : Cc) (st : Stmt) (f : S) : Prop := PS X st (liftS X.K C f)
abbrev SSs (X : Cx) (C : Cc) (st : List Stmt) (f : S) : Prop := PSs X st (liftS X.K C f)
theorem ps_weak {X : Cx} {e : Stmt} {t t' : TS} (h : PS X e t) (w : ∀ Dn σ H, t' Dn σ H → t Dn σ H) : PS X e t' := ⟨fun pins s σ H Dn I z => h.run pins s σ H Dn I (w Dn σ H z)⟩
theorem pss_weak {X : Cx} {e : List Stmt} {t t' : TS} (h : PSs X e t) (w : ∀ Dn σ H, t' Dn σ H → t Dn σ H) : PSs X e t' := ⟨fun pins s σ H Dn I z => h.run pins s σ H Dn I (w Dn σ H z)⟩

section
variable {K : PySem.W.Frag} {C : Cc} {σ : L2.St} {G G' H : Hp} {Dn : Ends}
theorem onS_same {r : RS} (s : Same G G') (h : onS K C G r Dn) : onS K C G' r Dn := by
  cases r with
  | nx δ => exact fun σ' G2 H2 re z => h σ' G2 H2 re (s.trans z)
  | bk δ => exact fun σ' G2 H2 re z => h σ' G2 H2 re (s.trans z)
  | ct δ => exact fun σ' G2 H2 re z => h σ' G2 H2 re (s.trans z)
  | rt d => exact h
  | exc e δ => exact fun cls dd σ' G2 H2 re z => h cls dd σ' G2 H2 re (s.trans z)
  | stk => exact h
/-- an expression ahead of a statement's rest -/
def sBind {α : Type} (r : R α) (δ : Sl) (k : α → RS) : RS := match r with
  | .ok a => k a
  | .exc e => .exc e δ
  | .stk => .stk
theorem onX_of {δ : Sl} {e : Ex} (re : RE K C σ δ G H) (h : onS K C G (.exc e δ) Dn) : onX K C σ G H e := fun cls dd G' H' s r => h cls dd σ G' H' (re.step s) s.g r
theorem onS_R {δ : Sl} {r : R D} {k : D → RS} (re : RE K C σ δ G H) (h : onS K C G (sBind r δ k) Dn) : onR K C σ G H r fun d _ G1 _ => onS K C G1 (k d) Dn := by
  cases r with
  | ok d => exact fun v G1 H1 s q => onS_same s.g h
  | exc e => exact onX_of re h
  | stk => exact h
theorem onS_B {δ : Sl} {r : R Bool} {k : Bool → RS} (re : RE K C σ δ G H) (h : onS K C G (sBind r δ k) Dn) : onB K C σ G H r fun d G1 _ => onS K C G1 (k d) Dn := by
  cases r with
  | ok d => exact fun G1 H1 s => onS_same s.g h
  | exc e => exact onX_of re h
  | stk => exact h
end

/-! ### blocks -/
def sNx : S := fun δ => .nx δ
def sSeq (f g : S) : S := fun δ => match f δ with
  | .nx δ' => g δ'
  | r => r
section
variable {X : Cx} {C : Cc} {pos : Pos} {st : Stmt} {rest : List Stmt} {f g : S}
theorem ss_nil : SSs X C [] sNx := pss_weak pss_nil fun Dn σ H ⟨δ, G, re, h⟩ => h σ G H re (Same.refl _)
theorem ss_one (h1 : SS X C st f) : SSs X C [st] f := pss_one h1
theorem ss_cons (h1 : SS X C st f) (h2 : SSs X C rest g) : SSs X C (st :: rest) (sSeq f g) := pss_weak (pss_cons h1 h2) fun Dn σ H ⟨δ, G, re, h⟩ => by
  refine ⟨δ, G, re, ?_⟩
  unfold sSeq at h
  cases e : f δ with
  | nx δ' => rw [e] at h; exact fun σ' G' H' re' s => ⟨δ', G', re', onS_same s h⟩
  | rt d => rw [e] at h; exact h
  | bk δ' => rw [e] at h; exact h
  | ct δ' => rw [e] at h; exact h
  | exc e2 δ' => rw [e] at h; exact h
  | stk => rw [e] at h; exact h
theorem ss_pass : SS X C (.Pass pos) sNx := ps_weak ps_pass fun Dn σ H ⟨δ, G, re, h⟩ => h σ G H re (Same.refl _)
def sBk : S := fun δ => .bk δ
def sCt : S := fun δ => .ct δ
theorem ss_break : SS X C (.Break pos) sBk := ps_weak ps_break fun Dn σ H ⟨δ, G, re, h⟩ => h σ G H re (Same.refl _)
theorem ss_cont : SS X C (.Continue pos) sCt := ps_weak ps_continue fun Dn σ H ⟨δ, G, re, h⟩ => h σ G H re (Same.refl _)
def sRet (f : E) : S := fun δ => sBind (f δ) δ fun d => .rt d
theorem ss_ret {e : Expr} {f : E} (he : SE X C e f) (hC : C.bor = none := by rfl) : SS X C (.Return (some e) pos) (sRet f) := ps_weak (ps_ret he) fun Dn σ H ⟨δ, G, re, h⟩ =>
  ⟨δ, G, re, onR_mono (onS_R re h) fun d v G1 H1 s1 r1 h1 => h1 v G1 H1 (RT.of hC (re.st.trans s1) r1)⟩
def sRetN : S := fun _ => .rt .non
theorem ss_retN (hC : C.bor = none := by rfl) : SS X C (.Return none pos) sRetN := ps_weak ps_retN fun Dn σ H ⟨δ, G, re, h⟩ => h .non G H (RT.of hC re.st .non)
def sIf (t : T) (a b : S) : S := fun δ => sBind (t δ) δ fun k => if k = true then a δ else b δ
theorem ss_if {c : Expr} {a b : List Stmt} {t : T} {fa fb : S} (hc : ST X C c t) (ha : SSs X C a fa) (hb : SSs X C b fb) : SS X C (.If c a b pos) (sIf t fa fb) := ps_weak (ps_if hc ha hb) fun Dn σ H ⟨δ, G, re, h⟩ => by
  refine ⟨δ, G, re, onB_mono (onS_B re h) fun k G1 H1 s1 h1 => ?_⟩
  cases k with
  | true => exact ⟨δ, G1, re.step s1, h1⟩
  | false => exact ⟨δ, G1, re.step s1, h1⟩
def sDrop (f : E) : S := fun δ => sBind (f δ) δ fun _ => .nx δ
theorem ss_expr {e : Expr} {f : E} (he : SE X C e f) (hs : swapsWith e none pos.line X.env = pure false := by rfl) : SS X C (.Expr e pos) (sDrop f) := ps_weak (ps_expr he hs) fun Dn σ H ⟨δ, G, re, h⟩ =>
  ⟨δ, G, re, onR_mono (onS_R re h) fun d v G1 H1 s1 r1 h1 => h1 σ G1 H1 (re.step s1) (Same.refl _)⟩
def sStk : S := fun _ => .stk
theorem ss_never : SS X C st sStk := ps_weak ps_never fun Dn σ H ⟨δ, G, re, h⟩ => h
def sSet (i : Nat) (f : E) : S := fun δ => sBind (f δ) δ fun d => .nx (δ.set i (.v d))
theorem ss_set (i : Nat) {x : Str} {e : Expr} {f : E} {pos' : Pos} (he : SE X C e f) (hN : X.N.Nodup) (hi : X.N[i]? = some x := by rfl) (hx : Loc X.env.scope x := by first | exact Or.inl rfl | exact Or.inr rfl) (hs : swapsWith e (some (.Name x pos')) pos.line X.env = pure false := by rfl)
    (hf : X.fn x = true ∨ X.env.scope.names.lookup x = some .local := by first | exact Or.inr rfl | exact Or.inl rfl) : SS X C (.Assign [.Name x pos'] e pos) (sSet i f) := ps_weak (ps_set hN hi hx he hs hf) fun Dn σ H ⟨δ, G, re, h⟩ =>
  ⟨δ, G, re, onR_mono (onS_R re h) fun d v G1 H1 s1 r1 h1 => h1 (σ.set i (some v)) G1 H1 ((re.step s1).setV i r1) (Same.refl _)⟩
end

/-! ### targets -/
inductive Pt where
  | nm (i : Nat) | tp (ps : List Pt)
mutual
def bindP : Pt → D → Sl → Option Sl
  | .nm i, d, δ => some (δ.set i (.v d))
  | .tp ps, .tup ds, δ => bindPs ps ds δ
  | .tp ps, .lst ds, δ => bindPs ps ds δ
  | _, _, _ => none
def bindPs : List Pt → List D → Sl → Option Sl
  | [], [], δ => some δ
  | p :: ps, d :: ds, δ => match bindP p d δ with
    | some δ' => bindPs ps ds δ'
    | none => none
  | _, _, _ => none
end
mutual
def idxP : Pt → List Nat
  | .nm i => [i]
  | .tp ps => idxPs ps
def idxPs : List Pt → List Nat
  | [] => []
  | p :: ps => idxP p ++ idxPs ps
end
/-- σ' differs from σ at these places alone -/
def Off (is : List Nat) (σ σ' : L2.St) : Prop := σ'.length = σ.length ∧ ∀ j, j ∉ is → σ'[j]? = σ[j]?
theorem Off.refl {is : List Nat} {σ : L2.St} : Off is σ σ := ⟨rfl, fun _ _ => rfl⟩
theorem Off.trans {is js : List Nat} {σ σ1 σ2 : L2.St} (a : Off is σ σ1) (b : Off js σ1 σ2) : Off (is ++ js) σ σ2 :=
  ⟨b.1.trans a.1, fun j hj => (b.2 j fun z => hj (List.mem_append_right _ z)).trans (a.2 j fun z => hj (List.mem_append_left _ z))⟩
def liftG (K : PySem.W.Frag) (C : Cc) (p : Pt) : TG := fun v σ H Q => ∃ d δ G δ', RE K C σ δ G H ∧ Rep K G d v ∧ bindP p d δ = some δ' ∧ ∀ σ', RE K C σ' δ' G H → Off (idxP p) σ σ' → Q σ' H
def liftGs (K : PySem.W.Frag) (C : Cc) (ps : List Pt) : TGs := fun vs σ H Q => ∃ ds δ G δ', RE K C σ δ G H ∧ RepL K G ds vs ∧ bindPs ps ds δ = some δ' ∧ ∀ σ', RE K C σ' δ' G H → Off (idxPs ps) σ σ' → Q σ' H
abbrev SG (X : Cx) (C : Cc) (e : Expr) (p : Pt) : Prop := PG X e (liftG X.K C p)
abbrev SGs (X : Cx) (C : Cc) (es : List Expr) (ps : List Pt) : Prop := PGs X es (liftGs X.K C ps)
theorem pg_weak {X : Cx} {e : Expr} {t t' : TG} (h : PG X e t) (w : ∀ v σ H Q, t' v σ H Q → t v σ H Q) : PG X e t' := ⟨fun pins s σ H v u Q I r z => h.run pins s σ H v u Q I r (w v σ H Q z)⟩
theorem pgs_weak {X : Cx} {e : List Expr} {t t' : TGs} (h : PGs X e t) (w : ∀ v σ H Q, t' v σ H Q → t v σ H Q) : PGs X e t' := ⟨fun pins s σ H v u Q I r z => h.run pins s σ H v u Q I r (w v σ H Q z)⟩
section
variable {X : Cx} {C : Cc} {pos : Pos}
theorem sg_name (i : Nat) {x : Str} (hN : X.N.Nodup) (hi : X.N[i]? = some x := by rfl) (hx : Loc X.env.scope x := by first | exact Or.inl rfl | exact Or.inr rfl) (hf : X.fn x = true ∨ X.env.scope.names.lookup x = some .local := by first | exact Or.inr rfl | exact Or.inl rfl) : SG X C (.Name x pos) (.nm i) :=
  pg_weak (pg_name hN hi hx hf) fun v σ H Q ⟨d, δ, G, δ', re, r, e, h⟩ => by
    simp only [bindP, Option.some.injEq] at e
    subst e
    refine h _ (re.setV i r) ⟨by simp, fun j hj => ?_⟩
    rw [List.getElem?_set_ne]
    intro z
    exact hj (by simp [idxP, z])
theorem sgs_nil : SGs X C [] [] := pgs_weak pgs_nil fun v σ H Q ⟨ds, δ, G, δ', re, r, e, h⟩ => by
  cases r with
  | nil =>
    simp only [bindPs, Option.some.injEq] at e
    subst e
    exact ⟨rfl, h σ re Off.refl⟩
  | cons a b => simp [bindPs] at e
theorem sgs_cons {e : Expr} {es : List Expr} {p : Pt} {ps : List Pt} (h1 : SG X C e p) (h2 : SGs X C es ps) (hs : (assignEach (e :: es) X.env).map (·.2) = assign e X.env :: (assignEach es X.env).map (·.2) := by rfl) : SGs X C (e :: es) (p :: ps) :=
  pgs_weak (pgs_cons h1 h2 hs) fun v σ H Q ⟨ds, δ, G, δ', re, r, e, h⟩ => by
    cases r with
    | nil => simp [bindPs] at e
    | @cons d9 v0 ds0 vs0 a b =>
      simp only [bindPs] at e
      cases q : bindP p d9 δ with
      | none => rw [q] at e; exact nomatch e
      | some δ1 =>
        rw [q] at e
        exact ⟨v0, vs0, rfl, d9, δ, G, δ1, re, a, q, fun σ1 re1 o1 => ⟨ds0, δ1, G, δ', re1, b, e, fun σ2 re2 o2 => h σ2 re2 (o1.trans o2)⟩⟩
theorem sg_tup {es : List Expr} {k : Nat} {ps : List Pt} (hc : X.calm = true) (h : SGs X C es ps) (hl : es.length = ps.length := by rfl) (hn : (assignEach es X.env).length = es.length := by rfl) (hst : (assignEach es X.env).findIdx? (·.1) = none := by rfl) :
    SG X C (.Tuple es k pos) (.tp ps) := by
  have len : ∀ {ps : List Pt} {ds : List D} {δ δ' : Sl}, bindPs ps ds δ = some δ' → ds.length = ps.length := by
    intro ps
    induction ps with
    | nil => intro ds δ δ' e; cases ds with
      | nil => rfl
      | cons a b => simp [bindPs] at e
    | cons p ps ih => intro ds δ δ' e; cases ds with
      | nil => simp [bindPs] at e
      | cons a b =>
        simp only [bindPs] at e
        cases q : bindP p a δ with
        | none => rw [q] at e; exact nomatch e
        | some δ1 => rw [q] at e; simp [ih e]
  refine ⟨fun pins s σ H v u Q I rv ⟨d, δ, G, δ', re, r, e, z⟩ => ?_⟩
  cases r with
  | @tup a vs ds p q =>
    simp only [bindP] at e
    have l1 := len e
    have l2 := q.length
    exact (pg_tup hc h hn hst).run pins s σ H _ u Q I rv ⟨a, vs, rfl, sqt_mono re.sub p, by omega, ds, δ, G, δ', re, q, e, fun σ' re' o => z σ' re' o⟩
  | @lst a vs ds p q =>
    simp only [bindP] at e
    have l1 := len e
    have l2 := q.length
    exact (pg_lst hc h hn hst).run pins s σ H _ u Q I rv ⟨a, vs, rfl, re.sub.seq p, by omega, ds, δ, G, δ', re, q, e, fun σ' re' o => z σ' re' o⟩
  | non => simp [bindP] at e
  | bl b => simp [bindP] at e
  | int b => simp [bindP] at e
  | str b => simp [bindP] at e
  | fn b => simp [bindP] at e
  | dct p l q => simp [bindP] at e
def sBindP (p : Pt) (d : D) (δ : Sl) : RS := match bindP p d δ with
  | some δ' => .nx δ'
  | none => .stk
def sAsg (p : Pt) (f : E) : S := fun δ => sBind (f δ) δ fun d => sBindP p d δ
theorem ss_asg {tg e : Expr} {p : Pt} {f : E} (he : SE X C e f) (hg : SG X C tg p) (hs : swapsWithSole [tg] e pos.line X.env = pure false := by rfl) (hw : swappedStores [tg] e X.env = pure none := by rfl)
    (h1 : (assignEach [tg] X.env).map (·.2) = [assign tg X.env] := by rfl) : SS X C (.Assign [tg] e pos) (sAsg p f) := ps_weak (ps_asg he hg hs hw h1) fun Dn σ H ⟨δ, G, re, h⟩ =>
  ⟨δ, G, re, onR_mono (onS_R re h) fun d0 v G1 H1 s1 r1 h1 => by
    unfold sBindP at h1
    cases q : bindP p d0 δ with
    | none => rw [q] at h1; exact h1.elim
    | some δ' => rw [q] at h1; exact ⟨d0, δ, G1, δ', re.step s1, r1, q, fun σ' re' _ => h1 σ' G1 H1 re' (Same.refl _)⟩⟩
/-- a, b = e1, e2 -/
def sPar (i j : Nat) (a : As) : S := fun δ => match a δ with
  | .ok [x, y] => .nx ((δ.set i (.v x)).set j (.v y))
  | .ok _ => .stk
  | .exc e => .exc e δ
  | .stk => .stk
/-- x op= e -/
def sAug (i : Nat) (g : B2) (f : E) : S := fun δ => match δ[i]? with
  | some (.v x) => sBind (f δ) δ fun y => match g x y with
    | some z => .nx (δ.set i (.v z))
    | none => .stk
  | _ => .stk
theorem ss_aug (i : Nat) {x : Str} {e : Expr} {f : E} {op : Operator} {g : B2} {pos' : Pos} (ho : OpR X (inplaceOp op) (rD X.K g)) (he : SE X C e f) (hN : X.N.Nodup) (hi : X.N[i]? = some x := by rfl) (hx : Loc X.env.scope x := by first | exact Or.inl rfl | exact Or.inr rfl)
    (hf : X.fn x = true ∨ X.env.scope.names.lookup x = some .local := by first | exact Or.inr rfl | exact Or.inl rfl) : SS X C (.AugAssign (.Name x pos') op e pos) (sAug i g f) :=
  ps_weak (ps_aug hN hi hx he ho hf) fun Dn σ H ⟨δ, G, re, h⟩ => by
    unfold sAug at h
    cases q : δ[i]? with
    | none => rw [q] at h; exact h.elim
    | some sl =>
      rw [q] at h
      cases sl with
      | un => exact h.elim
      | own xs => exact h.elim
      | bor xs => exact h.elim
      | v d0 =>
        obtain ⟨v0, e0, r0⟩ := re.val q
        refine ⟨v0, e0, δ, G, re, onR_mono (onS_R re h) fun d v G1 H1 s1 r1 h1 => ?_⟩
        cases z : g d0 d with
        | none => rw [z] at h1; exact h1.elim
        | some w =>
          rw [z] at h1
          exact ⟨G1, d0, d, w, z, s1.sub, r0.mono s1.g, r1, fun v2 G2 H2 s2 r2 => h1 _ G2 H2 (((re.step s1).step s2).setV i r2) s2.g⟩
theorem io_add : OpR X (inplaceOp .Add) (rD X.K (fun x y => match x, y with | .int i, .int j => some (.int (i + j)) | _, _ => none)) := by
  intro pins s σ H x y v u Q I rx ry h
  obtain ⟨G, dx, dy, d, e, sub, r1, r2, h⟩ := h
  cases r1 <;> cases r2 <;> simp only [Option.some.injEq, reduceCtorEq] at e
  subst e
  exact iop_add pins s σ H _ _ v u Q I rx ry ⟨_, _, rfl, rfl, h _ G H (Stp.refl sub) (.int _)⟩
theorem io_sub : OpR X (inplaceOp .Sub) (rD X.K gSub) := by
  intro pins s σ H x y v u Q I rx ry h
  obtain ⟨G, dx, dy, d, e, sub, r1, r2, h⟩ := h
  cases r1 <;> cases r2 <;> simp only [gSub, Option.some.injEq, reduceCtorEq] at e
  subst e
  exact iop_sub pins s σ H _ _ v u Q I rx ry ⟨_, _, rfl, rfl, h _ G H (Stp.refl sub) (.int _)⟩
end

/-! ### for -/
structure ItOk (K : PySem.W.Frag) (J : It) (G : Hp) (items : List D) : Prop where
  go : ∀ i H, Same G H → i < items.length → J.go i H
  stop : ∀ i H, Same G H → items.length ≤ i → J.stop i H
  yld : ∀ i H x H' Gc, Same G Gc → Same Gc H → i < items.length → J.yld i H x H' → ∃ d G2, items[i]? = some d ∧ Stp Gc H G2 H' ∧ Rep K G2 d x
def onI (K : PySem.W.Frag) (C : Cc) (σ : L2.St) (G H : Hp) (r : R (List D)) (P : List D → It → Hp → Hp → Prop) : Prop := match r with
  | .ok items => ∀ J G' H', Stp G H G' H' → ItOk K J G' items → P items J G' H'
  | .exc e => onX K C σ G H e
  | .stk => False
def liftI (K : PySem.W.Frag) (C : Cc) (f : As) : TI := fun σ H R => ∃ δ G, RE K C σ δ G H ∧ onI K C σ G H (f δ) fun _ J _ H' => R J H'
abbrev SI (X : Cx) (C : Cc) (tg e : Expr) (f : As) : Prop := PI X tg e (liftI X.K C f)
def forD (p : Pt) (body : S) : List D → Sl → RS
  | [], δ => .nx δ
  | d :: ds, δ => match bindP p d δ with
    | none => .stk
    | some δ1 => match body δ1 with
      | .nx δ2 => forD p body ds δ2
      | .ct δ2 => forD p body ds δ2
      | .bk δ2 => .nx δ2
      | r => r
def sFor (it : As) (p : Pt) (body : S) : S := fun δ => sBind (it δ) δ fun items => forD p body items δ
section
variable {X : Cx} {C : Cc} {pos : Pos} {tg iter : Expr}
theorem ss_for {body : List Stmt} {f : As} {p : Pt} {fb : S} (hp : PassesOwn (model X.prog X.w) X.A X.env X.xe) (hc : X.calm = true) (hi : SI X C tg iter f) (hg : SG X C tg p) (hb : SSs X C body fb)
    (hs : ∀ x, foldedSetIterable iter X.env x = pure x := by intro _; rfl) : SS X C (.For tg iter body [] pos) (sFor f p fb) := ps_weak (ps_for hp hc hi hg hb hs) fun Dn σ H ⟨δ, G, re, h⟩ => by
  refine ⟨δ, G, re, ?_⟩
  unfold sFor at h
  cases e : f δ with
  | stk => rw [e] at h; exact h.elim
  | exc ex => rw [e] at h; exact onX_of re h
  | ok items =>
    rw [e] at h
    intro J G1 H1 s1 ok
    have h0 : onS X.K C G (forD p fb items δ) Dn := h
    refine ⟨fun i m σ H => m = items.length - i ∧ i ≤ items.length ∧ ∃ δ G2, RE X.K C σ δ G2 H ∧ Same G1 G2 ∧ onS X.K C G2 (forD p fb (items.drop i) δ) Dn, ⟨items.length, by simp, Nat.zero_le _, δ, G1, re.step s1, Same.refl _, onS_same s1.g h0⟩, ?_⟩
    rintro i m σ2 H2 ⟨rfl, hi, δ2, G2, re2, sg, q⟩
    by_cases hlt : i < items.length
    · refine .inr ⟨ok.go i H2 (sg.trans re2.sub) hlt, fun σ H => ∃ δ G3, RE X.K C σ δ G3 H ∧ Same G1 G3 ∧ onS X.K C G3 (forD p fb (items.drop (i + 1)) δ) Dn, fun σ' H' n => ⟨items.length - (i + 1), by omega, rfl, hlt, n⟩, fun x H' y => ?_⟩
      obtain ⟨d, G3, ed, s3, r3⟩ := ok.yld i H2 x H' G2 sg re2.sub hlt y
      have ed2 : items.drop i = d :: items.drop (i + 1) := by
        rw [List.drop_eq_getElem_cons hlt]
        rw [List.getElem?_eq_getElem hlt] at ed
        rw [Option.some.inj ed]
      rw [ed2] at q
      simp only [forD] at q
      cases eb : bindP p d δ2 with
      | none => rw [eb] at q; exact q.elim
      | some δ3 =>
        rw [eb] at q
        refine ⟨d, δ2, G3, δ3, re2.step s3, r3, eb, fun σ4 re4 _ => ⟨δ3, G3, re4, ?_⟩⟩
        simp only at q
        cases ef : fb δ3 with
        | nx δ4 => rw [ef] at q; exact fun σ' G' H'' re' s' => ⟨δ4, G', re', (sg.trans s3.g).trans s', onS_same (s3.g.trans s') q⟩
        | ct δ4 => rw [ef] at q; exact fun σ' G' H'' re' s' => ⟨δ4, G', re', (sg.trans s3.g).trans s', onS_same (s3.g.trans s') q⟩
        | bk δ4 => rw [ef] at q; exact fun σ' G' H'' re' s' => q σ' G' H'' re' (s3.g.trans s')
        | rt d => rw [ef] at q; exact q
        | exc e4 δ4 => rw [ef] at q; exact fun cls dd σ' G' H'' re' s' rx => q cls dd σ' G' H'' re' (s3.g.trans s') rx
        | stk => rw [ef] at q; exact q
    · have ei : i = items.length := by omega
      subst ei
      rw [List.drop_length] at q
      exact .inl ⟨ok.stop _ H2 (sg.trans re2.sub) (Nat.le_refl _), q σ2 G2 H2 re2 (Same.refl _)⟩

/-! ### what is walked -/
theorem itOk_list {K : PySem.W.Frag} {G : Hp} {a : Addr} {vs : List V} {ds : List D} (h : SqL K G a vs) (r : RepL K G ds vs) : ItOk K (Itl K a) G ds where
  go := fun i H s hi => by
    obtain ⟨v, e, _⟩ := r.get (List.getElem?_eq_getElem hi)
    exact ⟨vs, v, s.seq h, e⟩
  stop := fun i H s hi => ⟨vs, s.seq h, by rw [← r.length]; exact hi⟩
  yld := fun i H x H' Gc s1 s2 hi y => by
    obtain ⟨v, e, rv⟩ := r.get (List.getElem?_eq_getElem hi)
    obtain ⟨rfl, y2⟩ := y
    have z := y2 vs ((s1.trans s2).seq h)
    rw [e] at z
    cases z
    exact ⟨_, Gc, List.getElem?_eq_getElem hi, Stp.refl s2, rv.mono s1⟩
theorem itOk_tup {K : PySem.W.Frag} {G : Hp} {a : Addr} {vs : List V} {ds : List D} (h : SqT K G a vs) (r : RepL K G ds vs) : ItOk K (Itt K a) G ds where
  go := fun i H s hi => by
    obtain ⟨v, e, _⟩ := r.get (List.getElem?_eq_getElem hi)
    exact ⟨vs, v, sqt_mono s h, e⟩
  stop := fun i H s hi => ⟨vs, sqt_mono s h, by rw [← r.length]; exact hi⟩
  yld := fun i H x H' Gc s1 s2 hi y => by
    obtain ⟨v, e, rv⟩ := r.get (List.getElem?_eq_getElem hi)
    obtain ⟨rfl, y2⟩ := y
    have z := y2 vs (sqt_mono (s1.trans s2) h)
    rw [e] at z
    cases z
    exact ⟨_, Gc, List.getElem?_eq_getElem hi, Stp.refl s2, rv.mono s1⟩
/-- a text's signs -/
def signs (x : Str) : List D := x.cps.toList.map fun c => .str ⟨#[c]⟩
theorem itOk_str {K : PySem.W.Frag} {G : Hp} {x : Str} : ItOk K (Its x) G (signs x) where
  go := fun i H s hi => by show i < x.cps.size; simpa [signs] using hi
  stop := fun i H s hi => by show x.cps.size ≤ i; simpa [signs] using hi
  yld := fun i H v H' Gc s1 s2 hi y => by
    obtain ⟨rfl, c, e, rfl⟩ := y
    refine ⟨.str ⟨#[c]⟩, Gc, ?_, Stp.refl s2, .str _⟩
    simp [signs, e]
/-- the things of a list, a tuple, a text -/
def iSeq (f : E) : As := fun δ => (f δ).bind fun d => match d with
  | .lst xs => .ok xs
  | .tup xs => .ok xs
  | .str x => .ok (signs x)
  | _ => .stk
theorem si_seq {e : Expr} {f : E} (he : SE X C e f) : SI X C tg e (iSeq f) := by
  refine ⟨fun pins s σ H R I ⟨δ, G, re, h⟩ => ?_⟩
  unfold iSeq at h
  have triv : ∀ (P : D → V → Hp → Hp → Prop), (∀ d v G' H', Stp G H G' H' → Rep X.K G' d v → f δ = .ok d → P d v G' H') → (∀ e, f δ = .exc e → onX X.K C σ G H e) → f δ ≠ .stk → onR X.K C σ G H (f δ) P := fun P h1 h2 h3 => by
    cases q : f δ with
    | ok d => exact fun v G' H' s r => h1 d v G' H' s r q
    | exc e => exact h2 e q
    | stk => exact absurd q h3
  cases q : f δ with
  | stk => rw [q] at h; exact h.elim
  | exc e => exact (pi_list he).run pins s σ H R I ⟨δ, G, re, triv _ (fun d v G' H' _ _ z => by rw [q] at z; exact nomatch z) (fun e2 z => by rw [q] at z h; cases z; exact h) (by rw [q]; exact fun z => nomatch z)⟩
  | ok d =>
    rw [q] at h
    cases d with
    | lst xs => exact (pi_list he).run pins s σ H R I ⟨δ, G, re, triv _ (fun d v G' H' s' r z => by
        rw [q] at z; cases z
        cases r with
        | @lst a vs _ p rl => exact ⟨a, rfl, ⟨vs, s'.sub.seq p⟩, h _ G' H' s' (itOk_list p rl)⟩) (fun e2 z => by rw [q] at z; exact nomatch z) (by rw [q]; exact fun z => nomatch z)⟩
    | tup xs => exact (pi_tup he).run pins s σ H R I ⟨δ, G, re, triv _ (fun d v G' H' s' r z => by
        rw [q] at z; cases z
        cases r with
        | @tup a vs _ p rl => exact ⟨a, rfl, ⟨vs, sqt_mono s'.sub p⟩, h _ G' H' s' (itOk_tup p rl)⟩) (fun e2 z => by rw [q] at z; exact nomatch z) (by rw [q]; exact fun z => nomatch z)⟩
    | str x => exact (pi_str he).run pins s σ H R I ⟨δ, G, re, triv _ (fun d v G' H' s' r z => by
        rw [q] at z; cases z
        cases r
        exact ⟨x, rfl, h _ G' H' s' itOk_str⟩) (fun e2 z => by rw [q] at z; exact nomatch z) (by rw [q]; exact fun z => nomatch z)⟩
    | non => exact h.elim
    | bl b => exact h.elim
    | int b => exact h.elim
    | fn b => exact h.elim
    | dct p l => exact h.elim
/-- the whole numbers lo, lo + 1, .. -/
def rngD (lo : Int) (n : Nat) : List D := (List.range n).map fun (i : Nat) => .int (lo + (i : Int))
theorem ints_get {lo : Int} {n i : Nat} (h : i < n) : (rngD lo n)[i]? = some (.int (lo + (i : Int))) := by simp [rngD, h]
theorem itOk_rng {K : PySem.W.Frag} {G : Hp} {lo : Int} {n : Nat} : ItOk K (Itr lo n) G (rngD lo n) where
  go := fun i H s hi => by show i < n; simpa [rngD] using hi
  stop := fun i H s hi => by show n ≤ i; simpa [rngD] using hi
  yld := fun i H v H' Gc s1 s2 hi y => by
    obtain ⟨rfl, rfl⟩ := y
    exact ⟨_, Gc, ints_get (by simpa [rngD] using hi), Stp.refl s2, .int _⟩
def iRange1 (a : As) : As := fun δ => (a δ).bind fun ds => match ds with
  | [.int j] => if -(2 ^ 62) ≤ j ∧ j < 2 ^ 62 then .ok (rngD 0 j.toNat) else .stk
  | _ => .stk
def iRange2 (a : As) : As := fun δ => (a δ).bind fun ds => match ds with
  | [.int i, .int j] => if -(2 ^ 62) ≤ i ∧ i < 2 ^ 62 ∧ -(2 ^ 62) ≤ j ∧ j < 2 ^ 62 then .ok (rngD i (j - i).toNat) else .stk
  | _ => .stk
theorem onA_AI {K : PySem.W.Frag} {σ : L2.St} {G H : Hp} {r : R (List D)} {k : List D → R (List D)} {P : List D → It → Hp → Hp → Prop} (h : onI K C σ G H (r.bind k) P) : onA K C σ G H r fun ds _ G1 H1 => onI K C σ G1 H1 (k ds) P := by
  cases r with
  | ok d =>
    intro v G1 H1 s q
    have h' : onI K C σ G H (k d) P := h
    show onI K C σ G1 H1 (k d) P
    cases e : k d with
    | ok d2 => rw [e] at h'; exact fun J G2 H2 s2 q2 => h' J G2 H2 (s.trans s2) q2
    | exc e2 => rw [e] at h'; exact onX_step h' s
    | stk => rw [e] at h'; exact h'
  | exc e => exact h
  | stk => exact h
theorem pi_weak {X : Cx} {tg e : Expr} {t t' : TI} (h : PI X tg e t) (w : ∀ σ H Q, t' σ H Q → t σ H Q) : PI X tg e t' := ⟨fun pins s σ H Q I z => h.run pins s σ H Q I (w σ H Q z)⟩
theorem si_range1 {a : Expr} {f : As} {p pos : Pos} (hg : Gl X "range") (hm : X.mg "range" = none) (ha : SA X C [a] f) (hs : starEach [a] X.env = [(false, eval a X.env)] := by rfl) : SI X C tg (.Call (.Name "range" p) [a] [] pos) (iRange1 f) :=
  pi_weak (pi_range1 hg hm ha hs) fun σ H R ⟨δ, G, re, h⟩ => ⟨δ, G, re, onA_mono (onA_AI h) fun ds vs G1 H1 s1 r1 h1 => by
    split at h1
    · rename_i j
      cases r1 with
      | cons r2 r3 =>
        cases r2; cases r3
        split at h1
        · rename_i hz
          refine ⟨j, rfl, hz.1, hz.2, h1 _ G1 H1 (Stp.refl s1.sub) itOk_rng⟩
        · exact h1.elim
    · exact h1.elim⟩
theorem si_range2 {a b : Expr} {f : As} {p pos : Pos} (hg : Gl X "range") (hm : X.mg "range" = none) (ha : SA X C [a, b] f) (hs : starEach [a, b] X.env = [(false, eval a X.env), (false, eval b X.env)] := by rfl) (hs2 : starEach [b] X.env = [(false, eval b X.env)] := by rfl) :
    SI X C tg (.Call (.Name "range" p) [a, b] [] pos) (iRange2 f) :=
  pi_weak (pi_range2 hg hm ha hs hs2) fun σ H R ⟨δ, G, re, h⟩ => ⟨δ, G, re, onA_mono (onA_AI h) fun ds vs G1 H1 s1 r1 h1 => by
    split at h1
    · rename_i i j
      cases r1 with
      | cons r2 r3 =>
        cases r3 with
        | cons r3 r4 =>
          cases r2; cases r3; cases r4
          split at h1
          · rename_i hz
            refine ⟨i, j, rfl, hz, h1 _ G1 H1 (Stp.refl s1.sub) itOk_rng⟩
          · exact h1.elim
    · exact h1.elim⟩
theorem itOk_enum {K : PySem.W.Frag} {G : Hp} {a : Addr} {vs : List V} {ds : List D} (h : SqL K G a vs) (r : RepL K G ds vs) : ItOk K (Ite K a) G (ds.zipIdx.map fun p => .tup [.int (p.2 : Nat), p.1]) where
  go := fun i H s hi => by
    have hi' : i < ds.length := by simpa using hi
    obtain ⟨v, e, _⟩ := r.get (List.getElem?_eq_getElem hi')
    exact ⟨vs, v, s.seq h, e⟩
  stop := fun i H s hi => ⟨vs, s.seq h, by rw [← r.length]; simpa using hi⟩
  yld := fun i H x H' Gc s1 s2 hi y => by
    have hi' : i < ds.length := by simpa using hi
    obtain ⟨v, e, rv⟩ := r.get (List.getElem?_eq_getElem hi')
    obtain ⟨T, x0, rfl, hT, rfl, y2⟩ := y
    have z := y2 vs ((s1.trans s2).seq h)
    rw [e] at z
    cases z
    refine ⟨.tup [.int (i : Nat), ds[i]], upd Gc T (.tup [.int (i : Nat), v]), ?_, Stp.new s2 hT _, .tup (SqT.of upd_same) (.cons (.int _) (.cons ?_ .nil))⟩
    · simp [hi']
    · exact (rv.mono s1).mono (same_new (s2.free hT) _)
def iEnumD (a : As) : As := fun δ => (a δ).bind fun ds => match ds with
  | [.lst xs] => .ok (xs.zipIdx.map fun p => .tup [.int (p.2 : Nat), p.1])
  | _ => .stk
theorem si_enum {e : Expr} {f : As} {p pos tpos : Pos} {elts : List Expr} {kk : Nat} (hg : Gl X "enumerate") (hm : X.mg "enumerate" = none) (ha : SA X C [e] f) (hs : starEach [e] X.env = [(false, eval e X.env)] := by rfl) :
    SI X C (.Tuple elts kk tpos) (.Call (.Name "enumerate" p) [e] [] pos) (iEnumD f) :=
  pi_weak (pi_enum hg hm ha hs) fun σ H R ⟨δ, G, re, h⟩ => ⟨δ, G, re, onA_mono (onA_AI h) fun ds vs G1 H1 s1 r1 h1 => by
    split at h1
    · cases r1 with
      | cons r2 r3 =>
        cases r3
        cases r2 with
        | @lst a us _ pp q => exact ⟨a, us, rfl, s1.sub.seq pp, h1 _ G1 H1 (Stp.refl s1.sub) (itOk_enum pp q)⟩
    · exact h1.elim⟩
theorem itOk_rev {K : PySem.W.Frag} {G : Hp} {a : Addr} {vs : List V} {ds : List D} (h : SqL K G a vs) (r : RepL K G ds vs) : ItOk K (Itv K a vs.length) G ds.reverse where
  go := fun i H s hi => by
    have hi' : i < ds.length := by simpa using hi
    have hl := r.length
    obtain ⟨v, e, _⟩ := r.get (List.getElem?_eq_getElem (show vs.length - 1 - i < ds.length by omega))
    exact ⟨by omega, vs, v, s.seq h, e⟩
  stop := fun i H s hi => by
    have hl := r.length
    have : ds.length ≤ i := by simpa using hi
    show vs.length ≤ i
    omega
  yld := fun i H x H' Gc s1 s2 hi y => by
    have hi' : i < ds.length := by simpa using hi
    have hl := r.length
    have hi2 : vs.length - 1 - i < ds.length := by omega
    obtain ⟨v, e, rv⟩ := r.get (List.getElem?_eq_getElem hi2)
    obtain ⟨rfl, y2⟩ := y
    have z := y2 vs ((s1.trans s2).seq h)
    rw [e] at z
    cases z
    refine ⟨_, Gc, ?_, Stp.refl s2, rv.mono s1⟩
    rw [List.getElem?_reverse hi', List.getElem?_eq_getElem (by omega)]
    congr 1
    exact getElem_congr rfl (by omega) _
def iRevD (a : As) : As := fun δ => (a δ).bind fun ds => match ds with
  | [.lst xs] => .ok xs.reverse
  | _ => .stk
theorem si_rev {e : Expr} {f : As} {p pos : Pos} (hg : Gl X "reversed") (hm : X.mg "reversed" = none) (ha : SA X C [e] f) (hs : starEach [e] X.env = [(false, eval e X.env)] := by rfl) : SI X C tg (.Call (.Name "reversed" p) [e] [] pos) (iRevD f) :=
  pi_weak (pi_reversed hg hm ha hs) fun σ H R ⟨δ, G, re, h⟩ => ⟨δ, G, re, onA_mono (onA_AI h) fun ds vs G1 H1 s1 r1 h1 => by
    split at h1
    · cases r1 with
      | cons r2 r3 =>
        cases r3
        cases r2 with
        | @lst a us _ pp q => exact ⟨a, us, rfl, s1.sub.seq pp, h1 _ G1 H1 (Stp.refl s1.sub) (itOk_rev pp q)⟩
    · exact h1.elim⟩
end

/-! ### while -/
def whileD (c : T) (body : S) : Nat → Sl → RS
  | 0, _ => .stk
  | n + 1, δ => match c δ with
    | .ok true => match body δ with
      | .nx δ2 => whileD c body n δ2
      | .ct δ2 => whileD c body n δ2
      | .bk δ2 => .nx δ2
      | r => r
    | .ok false => .nx δ
    | .exc e => .exc e δ
    | .stk => .stk
section
variable {X : Cx} {C : Cc} {pos : Pos}
theorem ss_while (n : Nat) {c : Expr} {body : List Stmt} {t : T} {fb : S} (hp : PassesOwn (model X.prog X.w) X.A X.env X.xe) (hc : ST X C c t) (hb : SSs X C body fb) : SS X C (.While c body [] pos) (whileD t fb n) :=
  ps_weak (ps_while hp hc hb) fun Dn σ H ⟨δ, G, re, h⟩ => by
    refine ⟨fun m σ H => ∃ δ G, RE X.K C σ δ G H ∧ onS X.K C G (whileD t fb m δ) Dn, ⟨n, δ, G, re, h⟩, ?_⟩
    rintro m σ2 H2 ⟨δ2, G2, re2, q⟩
    cases m with
    | zero => exact q.elim
    | succ m =>
      simp only [whileD] at q
      refine ⟨δ2, G2, re2, ?_⟩
      cases e : t δ2 with
      | stk => rw [e] at q; exact q.elim
      | exc ex => rw [e] at q; exact onX_of re2 q
      | ok b =>
        rw [e] at q
        intro G3 H3 s3
        cases b with
        | false =>
          rw [if_neg Bool.false_ne_true]
          exact q σ2 G3 H3 (re2.step s3) s3.g
        | true =>
          rw [if_pos rfl]
          refine ⟨fun σ H => ∃ δ G, RE X.K C σ δ G H ∧ onS X.K C G (whileD t fb m δ) Dn, fun σ' H' z => ⟨m, Nat.lt_succ_self _, z⟩, δ2, G3, re2.step s3, ?_⟩
          simp only at q
          cases ef : fb δ2 with
          | nx δ4 => rw [ef] at q; exact fun σ' G' H'' re' s' => ⟨δ4, G', re', onS_same (s3.g.trans s') q⟩
          | ct δ4 => rw [ef] at q; exact fun σ' G' H'' re' s' => ⟨δ4, G', re', onS_same (s3.g.trans s') q⟩
          | bk δ4 => rw [ef] at q; exact fun σ' G' H'' re' s' => q σ' G' H'' re' (s3.g.trans s')
          | rt d => rw [ef] at q; exact q
          | exc e4 δ4 => rw [ef] at q; exact fun cls dd σ' G' H'' re' s' rx => q cls dd σ' G' H'' re' (s3.g.trans s') rx
          | stk => rw [ef] at q; exact q
end
end Fs

/-! F6: defs by their function over data, calls, comprehensions, lists of the frame's own. -/
namespace Fs
open PySem L2

/-- a def's promise: what its function says of the arguments' data -/
def spD (K : PySem.W.Frag) (ct : String → Addr) (n : Nat) (F : List D → R D) : Sp := fun vs H Q E => ∃ G ds, ds.length = n ∧ Same G H ∧ RepL K G ds vs ∧ match F ds with
  | .ok d => ∀ v G' H', Stp G H G' H' → Rep K G' d v → Q v H'
  | .exc e => ∀ cls dd G' H', Stp G H G' H' → RepX K ct G' H' e cls dd → E cls dd H'
  | .stk => False
/-- a body as a function of the arguments: N names, n of them parameters -/
def runD (N : Nat) (body : S) (ds : List D) : R D := match body (ds.map .v ++ List.replicate (N - ds.length) .un) with
  | .nx _ => .ok .non
  | .rt d => .ok d
  | .exc e _ => .exc e
  | _ => .stk
theorem re_start {K : PySem.W.Frag} {C : Cc} {G H : Hp} {ds : List D} {vs : List V} {N : List Str} (st : Stp C.G0 C.H0 G H) (r : RepL K G ds vs) (hn : ds.length ≤ N.length) : RE K C (L2.start N vs) (ds.map .v ++ List.replicate (N.length - ds.length) .un) G H := by
  have hl := r.length
  refine ⟨st, by simp [L2.start]; omega, fun i s hs => ?_, fun i j s t p hij hs ht os ot => ?_⟩
  · unfold L2.start
    by_cases h : i < ds.length
    · rw [List.getElem?_append_left (by simpa using h)] at hs
      rw [List.getElem?_append_left (by simp; omega)]
      obtain ⟨v, e1, r1⟩ := r.get (List.getElem?_eq_getElem h)
      rw [List.getElem?_map, List.getElem?_eq_getElem h] at hs
      rw [List.getElem?_map, e1]
      cases hs
      exact ⟨v, rfl, r1⟩
    · rw [List.getElem?_append_right (by simpa using h)] at hs
      rw [List.getElem?_replicate] at hs
      split at hs
      · cases hs
        trivial
      · exact nomatch hs
  · exfalso
    by_cases h : i < ds.length
    · rw [List.getElem?_append_left (by simpa using h), List.getElem?_map, List.getElem?_eq_getElem h] at hs
      cases hs
      cases os
    · rw [List.getElem?_append_right (by simpa using h), List.getElem?_replicate] at hs
      split at hs
      · cases hs
        cases os
      · exact nomatch hs
section
variable {P : Program} {w : World} {K : PySem.W.Frag} {mg : Str → Option Value} {base : Heap} {ct : String → Addr}
/-- a def of the text keeps the promise of its body's function -/
theorem fn_ok {x qual : Str} {st : Stmt} {f : Addr} {fd : FuncData} {N ps : List Str} {k : Nat} {body : S} (F : L2.Fun K x qual st f fd) (sc : FnScope N ps (defScope st)) (hn : ps.length ≤ N.length)
    (hb : ∀ (cdv : Value) (A : Around) (outer : List Env) (s : Shared) (H G : Hp) (E : XK), Room k (A.deeper (PyProof.Rows.envOfC qual (defScope st) s.heap.objs.size f cdv)) →
      SSs (cxOf (L2.CX P w) P w K mg base N qual (defScope st) f cdv A outer s H E) ⟨G, H, ct, fun cls d _ H => E cls d H, none⟩ (defBody st) body) :
    FnOk P w K mg base (L2.CX P w) (k + 1) f fd ps (spD K ct ps.length (runD N.length body)) := by
  refine F.okX sc (fun vs H Q E ⟨G, ds, l, s, r, _⟩ => by rw [← l, r.length]) (fun cdv A outer s H vs Q E hr ⟨G, ds, l, sub, r, h⟩ => ⟨_, hb cdv A outer s H G E hr, ?_⟩)
  have rs : RE K ⟨G, H, ct, fun cls d _ H => E cls d H, none⟩ (L2.start N vs) (ds.map Slot.v ++ List.replicate (N.length - ds.length) Slot.un) G H := re_start (Stp.refl sub) r (by omega)
  refine ⟨ds.map Slot.v ++ List.replicate (N.length - ds.length) Slot.un, G, rs, ?_⟩
  unfold runD at h
  show onS K _ G (body (ds.map .v ++ List.replicate (N.length - ds.length) .un)) _
  cases e : body (ds.map .v ++ List.replicate (N.length - ds.length) .un) with
  | nx δ => rw [e] at h; exact fun σ' G' H' re _ => h .non G' H' re.st .non
  | rt d => rw [e] at h; exact fun v G' H' z => h v G' H' z.1 z.2
  | exc e2 δ => rw [e] at h; exact fun cls dd σ' G' H' re _ rx => h cls dd G' H' re.st rx
  | bk δ => rw [e] at h; exact h.elim
  | ct δ => rw [e] at h; exact h.elim
  | stk => rw [e] at h; exact h.elim
/-- a def of no level: nothing is promised -/
theorem fn_zero {f : Addr} {fd : FuncData} {ps : List Str} : FnOk P w K mg base (L2.CX P w) 0 f fd ps (spD K ct ps.length fun _ => .stk) :=
  ⟨fun vs H Q E ⟨G, ds, l, s, r, h⟩ => h.elim, fun A outer s H args us vs Q E _ _ _ _ ⟨G, ds, l, s, r, h⟩ => h.elim⟩
end

/-! ### calls -/
def eCall (F : List D → R D) (a : As) : E := fun δ => (a δ).bind F
section
variable {X : Cx} {C : Cc} {pos p : Pos} {x : Str} {e : Expr} {es : List Expr} {fa : As} {k n : Nat} {f : Addr} {fd : FuncData} {ps : List Str} {F : List D → R D}
theorem onA_sp {K : PySem.W.Frag} {σ : L2.St} {G H : Hp} {δ : Sl} {Q : VK} (hn : ∀ ds, fa δ = .ok ds → ds.length = n) (h : onR K C σ G H ((fa δ).bind F) fun _ v _ H' => Q v H') :
    onA K C σ G H (fa δ) fun ds vs _ H1 => spD K C.ct n F vs H1 Q (WE C.W σ) := by
  have h2 := onA_AR h
  cases q : fa δ with
  | stk => rw [q] at h2; exact h2.elim
  | exc e => rw [q] at h2; exact h2
  | ok ds =>
    rw [q] at h2
    intro vs G1 H1 s1 r1
    refine ⟨G1, ds, hn ds q, s1.sub, r1, ?_⟩
    have h3 : onR K C σ G1 H1 (F ds) (fun _ v _ H' => Q v H') := h2 vs G1 H1 s1 r1
    cases q2 : F ds with
    | ok d => rw [q2] at h3; exact h3
    | exc e => rw [q2] at h3; exact h3
    | stk => rw [q2] at h3; exact h3
/-- an argument list gives as many as it has -/
def LenA (fa : As) (n : Nat) : Prop := ∀ δ ds, fa δ = .ok ds → ds.length = n
theorem lenA_nil : LenA aNil 0 := fun δ ds h => by cases h; rfl
theorem lenA_cons {f : E} {r : As} {n : Nat} (h : LenA r n) : LenA (aCons f r) (n + 1) := fun δ ds e => by
  unfold aCons at e
  cases q : f δ with
  | stk => rw [q] at e; exact nomatch e
  | exc e2 => rw [q] at e; exact nomatch e
  | ok d =>
    rw [q] at e
    cases q2 : r δ with
    | stk => simp only [R.bind, q2] at e; exact nomatch e
    | exc e2 => simp only [R.bind, q2] at e; exact nomatch e
    | ok xs =>
      simp only [R.bind, q2, R.ok.injEq] at e
      subst e
      simp [h δ xs q2]
theorem se_call (hF : FnOk X.prog X.w X.K X.mg X.base (L2.CX X.prog X.w) k f fd ps (spD X.K C.ct n F)) (hr : Room k X.A) (tk : Takes X C.W) (hg : Gl X x) (hm : X.mg x = some (.ref f)) (hk : PySem.W.keepIn X.K (.ref f) = true) (hb : Binds X.K fd ps [])
    (ha : SA X C (e :: es) fa) (hl : LenA fa n) (hdb : (x == ("__debug__" : Str)) = false := by decide) (he : starEach (e :: es) X.env = (false, eval e X.env) :: starEach es X.env := by rfl) (hpl : (backTo pos (starEach es X.env)).any (·.1) = false := by rfl) :
    SE X C (.Call (.Name x p) (e :: es) [] pos) (eCall F fa) :=
  pe_weak (pe_callS hF hr hg hm hk hb (fun σ => passAt tk σ) ha hdb he hpl) fun σ H Q ⟨δ, G, re, h⟩ => ⟨δ, G, re, onA_sp (fun ds q => hl δ ds q) h⟩
end

/-! ### lists that are the frame's own -/
/-- an expression that gives a new list -/
def onF (K : PySem.W.Frag) (C : Cc) (σ : L2.St) (G H : Hp) (r : R (List D)) (P : List D → Addr → Hp → Hp → Prop) : Prop := match r with
  | .ok xs => ∀ p vs G' H', Stp G H G' H' → H p = none → G' p = none → H' p = some (.lst vs) → RepL K G' xs vs → P xs p G' H'
  | .exc e => onX K C σ G H e
  | .stk => False
abbrev Fr := Sl → R (List D)
def liftF (K : PySem.W.Frag) (C : Cc) (f : Fr) : TE := fun σ H Q => ∃ δ G, RE K C σ δ G H ∧ onF K C σ G H (f δ) fun _ p _ H' => Q (.ref p) H'
abbrev SF (X : Cx) (C : Cc) (e : Expr) (f : Fr) : Prop := PE X e (liftF X.K C f)
def eFz (f : Fr) : E := fun δ => (f δ).bind fun xs => .ok (.lst xs)
theorem lift_fz {K : PySem.W.Frag} {C : Cc} {f : Fr} {σ : L2.St} {H : Hp} {Q : VK} (h : liftE K C (eFz f) σ H Q) : liftF K C f σ H Q := by
  obtain ⟨δ, G, re, h⟩ := h
  refine ⟨δ, G, re, ?_⟩
  unfold eFz at h
  cases q : f δ with
  | stk => rw [q] at h; exact h
  | exc e => rw [q] at h; exact h
  | ok xs =>
    rw [q] at h
    intro p vs G' H' s hp gp hh r
    have sg := same_new gp (.lst vs)
    refine h (.ref p) (upd G' p (.lst vs)) H' ⟨s.g.trans sg, s.h, fun a o ha => ?_, fun a ha => ?_⟩ (.lst (SqL.of upd_same) (r.mono sg))
    · by_cases e : a = p
      · subst e
        rw [upd_same] at ha
        cases ha
        exact hh
      · rw [upd_ne e] at ha
        exact s.sub _ _ ha
    · by_cases e : a = p
      · exact .inr (e ▸ hp)
      · rw [upd_ne e] at ha
        exact s.nw a ha
section
variable {X : Cx} {C : Cc} {pos : Pos} {e : Expr} {es : List Expr} {f : Fr} {r : As}
theorem SF.se (h : SF X C e f) : SE X C e (eFz f) := pe_weak h fun σ H Q z => lift_fz z
def fLst (r : As) : Fr := fun δ => (r δ).bind fun xs => if xs.length ≤ sizeLine then .ok xs else .stk
theorem onA_AF {K : PySem.W.Frag} {σ : L2.St} {G H : Hp} {r : R (List D)} {k : List D → R (List D)} {P : List D → Addr → Hp → Hp → Prop} (h : onF K C σ G H (r.bind k) P) : onA K C σ G H r fun ds _ G1 H1 => onF K C σ G1 H1 (k ds) P := by
  cases r with
  | ok d =>
    intro v G1 H1 s q
    have h' : onF K C σ G H (k d) P := h
    show onF K C σ G1 H1 (k d) P
    cases e : k d with
    | ok d2 => rw [e] at h'; exact fun p vs G2 H2 s2 hp gp hh q2 => h' p vs G2 H2 (s.trans s2) (s.h.free hp) gp hh q2
    | exc e2 => rw [e] at h'; exact onX_step h' s
    | stk => rw [e] at h'; exact h'
  | exc e => exact h
  | stk => exact h
theorem onR_RF {K : PySem.W.Frag} {σ : L2.St} {G H : Hp} {r : R D} {k : D → R (List D)} {P : List D → Addr → Hp → Hp → Prop} (h : onF K C σ G H (r.bind k) P) : onR K C σ G H r fun ds _ G1 H1 => onF K C σ G1 H1 (k ds) P := by
  cases r with
  | ok d =>
    intro v G1 H1 s q
    have h' : onF K C σ G H (k d) P := h
    show onF K C σ G1 H1 (k d) P
    cases e : k d with
    | ok d2 => rw [e] at h'; exact fun p vs G2 H2 s2 hp gp hh q2 => h' p vs G2 H2 (s.trans s2) (s.h.free hp) gp hh q2
    | exc e2 => rw [e] at h'; exact onX_step h' s
    | stk => rw [e] at h'; exact h'
  | exc e => exact h
  | stk => exact h
theorem sf_lst (h : SA X C es r) : SF X C (.List es pos) (fLst r) := pe_weak (pe_lst h) fun σ H Q ⟨δ, G, re, h⟩ =>
  ⟨δ, G, re, onA_mono (onA_AF h) fun ds vs G1 H1 s1 r1 h1 => by
    have hl := r1.length
    by_cases z : ds.length ≤ sizeLine
    · rw [if_pos z] at h1
      exact ⟨by omega, fun p hp => h1 p vs G1 _ (Stp.newH s1.sub hp _) hp (s1.sub.free hp) upd_same r1⟩
    · rw [if_neg z] at h1
      exact h1.elim⟩
/-- list(x) -/
def fList (f : E) : Fr := fun δ => (f δ).bind fun d => match d with
  | .lst xs => .ok xs
  | .tup xs => .ok xs
  | _ => .stk
theorem sf_list {x : Str} {p : Pos} {a : Expr} {fa : E} (hx : x = "list") (hg : Gl X x) (hm : X.mg x = none) (ha : SE X C a fa) (hv : bootBuiltins x = some (.type "list")) (hn : x ≠ "__name__" := by decide) (hdb : (x == ("__debug__" : Str)) = false := by decide)
    (he : starEach [a] X.env = (false, eval a X.env) :: starEach [] X.env := by rfl) (hpl : (backTo pos (starEach [] X.env)).any (·.1) = false := by rfl) : SF X C (.Call (.Name x p) [a] [] pos) (fList fa) :=
  pe_weak (pe_callTy call_list_of hg hm hv (pa_cons ha pa_nil he) hn hdb he hpl) fun σ H Q ⟨δ, G, re, h⟩ =>
  ⟨δ, G, re, onR_mono (onR_RF h) fun d v G1 H1 s1 r1 h1 => by
    cases r1 with
    | @lst a vs ds p q => exact ⟨a, vs, rfl, .inl (s1.sub.seq p), fun c hc => h1 c vs G1 _ (Stp.newH s1.sub hc _) hc (s1.sub.free hc) upd_same q⟩
    | @tup a vs ds p q => exact ⟨a, vs, rfl, .inr (sqt_mono s1.sub p), fun c hc => h1 c vs G1 _ (Stp.newH s1.sub hc _) hc (s1.sub.free hc) upd_same q⟩
    | non => exact h1.elim
    | bl b => exact h1.elim
    | int b => exact h1.elim
    | str b => exact h1.elim
    | fn b => exact h1.elim
    | dct p l q => exact h1.elim⟩
/-- x = a new list, x's own from here on -/
def sOwn (i : Nat) (f : Fr) : S := fun δ => sBind (f δ) δ fun xs => .nx (δ.set i (.own xs))
theorem RE.setNew {K : PySem.W.Frag} {σ : L2.St} {δ : Sl} {G H G' H' : Hp} {xs : List D} {vs : List V} {p : Addr} (re : RE K C σ δ G H) (s : Stp G H G' H') (i : Nat) (hp : H p = none) (gp : G' p = none) (hh : H' p = some (.lst vs)) (r : RepL K G' xs vs) :
    RE K C (σ.set i (some (.ref p))) (δ.set i (.own xs)) G' H' := by
  refine (re.step s).setO i (re.st.h.free hp) gp hh r fun j t hj ht ot z => ?_
  cases t with
  | own ys =>
    obtain ⟨p2, vs2, e2, _, _, h2, _⟩ := re.ownd ht
    rw [z] at e2
    cases e2
    rw [hp] at h2
    exact nomatch h2
  | bor ys =>
    obtain ⟨p2, vs2, _, e2, _, _, h2, _⟩ := re.bord ht
    rw [z] at e2
    cases e2
    rw [hp] at h2
    exact nomatch h2
  | un => cases ot
  | v d => cases ot
theorem ss_own (i : Nat) {x : Str} {pos' : Pos} (he : SF X C e f) (hN : X.N.Nodup) (hi : X.N[i]? = some x := by rfl) (hx : Loc X.env.scope x := by first | exact Or.inl rfl | exact Or.inr rfl) (hs : swapsWith e (some (.Name x pos')) pos.line X.env = pure false := by rfl)
    (hf : X.fn x = true ∨ X.env.scope.names.lookup x = some .local := by first | exact Or.inr rfl | exact Or.inl rfl) : SS X C (.Assign [.Name x pos'] e pos) (sOwn i f) := ps_weak (ps_set hN hi hx he hs hf) fun Dn σ H ⟨δ, G, re, h⟩ => by
  refine ⟨δ, G, re, ?_⟩
  unfold sOwn at h
  cases q : f δ with
  | stk => rw [q] at h; exact h
  | exc e => rw [q] at h; exact onX_of re h
  | ok xs =>
    rw [q] at h
    intro p vs G' H' s hp gp hh r
    exact h _ G' H' (re.setNew s i hp gp hh r) s.g
/-- x.append(e) of the own list at x -/
def sApp (i : Nat) (f : E) : S := fun δ => match δ[i]? with
  | some (.own xs) => sBind (f δ) δ fun d => if xs.length < sizeLine then .nx (δ.set i (.own (xs ++ [d]))) else .stk
  | _ => .stk
theorem ss_app (i : Nat) {x : Str} {p1 p2 p3 : Pos} {a : Expr} {fa : E} (ha : SE X C a fa) (hN : X.N[i]? = some x := by rfl) (hv : Vis X.env.scope x := by first | exact Or.inl rfl | exact Or.inr (Or.inl rfl) | exact Or.inr (Or.inr rfl)) (hd : (x == ("__debug__" : Str)) = false := by decide)
    (hcd : (x == ("__classdict__" : Str)) = false := by decide) (hs : swapsWith (.Call (.Attribute (.Name x p1) "append" p2) [a] [] p3) none pos.line X.env = pure false := by rfl)
    (hbase : attributeBase (.Name x p1) "append" X.env (eval (.Name x p1) X.env) = eval (.Name x p1) X.env := by rfl)
    (hfew : ((backTo p3 (starEach [a] X.env)).all (fun x => !x.1) && (backToKw p3 (keywordEach [] X.env)).all (fun x => x.1.isSome)
      && decide ([a].length + ([] : List Keyword).length + (if ([] : List Keyword).isEmpty then 0 else 1) < 30)) = true := by rfl)
    (hline : (p2.endLine == p3.line) = true := by rfl) (hst : starEach [a] X.env = (false, eval a X.env) :: starEach [] X.env := by rfl) (hpl : (backTo p3 (starEach [] X.env)).any (·.1) = false := by rfl) :
    SS X C (.Expr (.Call (.Attribute (.Name x p1) "append" p2) [a] [] p3) pos) (sApp i fa) :=
  ps_weak (ps_expr (pe_bm PySem.F.plainAttrs_list PySem.F.slot_list_append PySem.F.type_list_append mt_append (pe_var hN hv hd hcd) (pa_cons ha pa_nil hst) hbase hfew hline hst hpl) hs) fun Dn σ H ⟨δ, G, re, h⟩ => by
    unfold sApp at h
    cases q : δ[i]? with
    | none => rw [q] at h; exact h.elim
    | some sl =>
      rw [q] at h
      cases sl with
      | un => exact h.elim
      | v d => exact h.elim
      | bor xs => exact h.elim
      | own xs =>
        obtain ⟨p, vs, e0, h0, g0, hh, r0⟩ := re.ownd q
        refine ⟨.ref p, e0, .inl ⟨rfl, vs, SqL.of hh⟩, δ, G, re, onR_mono (onS_R re h) fun d v G1 H1 s1 r1 h1 => ?_⟩
        split at h1
        · rename_i hz
          have hl := r0.length
          refine ⟨p, vs, v, rfl, rfl, s1.h _ _ hh, by omega, h1 σ G1 _ ((re.step s1).mutO i q e0 ((r0.mono s1.g).append (RepL.one r1))) (Same.refl _)⟩
        · exact h1.elim
/-- x.extend(e) of the own list at x -/
def sExt (i : Nat) (f : E) : S := fun δ => match δ[i]? with
  | some (.own xs) => sBind (f δ) δ fun d => match d with
    | .lst ys => if xs.length + ys.length ≤ sizeLine then .nx (δ.set i (.own (xs ++ ys))) else .stk
    | _ => .stk
  | _ => .stk
/-- x[i] = e of the own list at x -/
def sSetIx (i : Nat) (fi f : E) : S := fun δ => sBind (f δ) δ fun d => match δ[i]? with
  | some (.own xs) => sBind (fi δ) δ fun z => match z with
    | .int k => match ixN xs.length k with
      | some j => .nx (δ.set i (.own (xs.set j d)))
      | none => .stk
    | _ => .stk
  | _ => .stk
/-- the own list at x is frozen from here on -/
def sFrz (i : Nat) (f : S) : S := fun δ => match δ[i]? with
  | some (.own xs) => f (δ.set i (.v (.lst xs)))
  | _ => f δ
theorem lift_frz {K : PySem.W.Frag} {i : Nat} {g : S} {Dn : Ends} {σ : L2.St} {H : Hp} (h : liftS K C (sFrz i g) Dn σ H) : liftS K C g Dn σ H := by
  obtain ⟨δ, G, re, h⟩ := h
  unfold sFrz at h
  cases q : δ[i]? with
  | none => rw [q] at h; exact ⟨δ, G, re, h⟩
  | some sl =>
    rw [q] at h
    cases sl with
    | un => exact ⟨δ, G, re, h⟩
    | v d => exact ⟨δ, G, re, h⟩
    | bor xs => exact ⟨δ, G, re, h⟩
    | own xs =>
      obtain ⟨p, vs, _, _, gp, _, re2⟩ := re.frz i q
      exact ⟨_, _, re2, onS_same (same_new gp _) h⟩
theorem ss_frz (i : Nat) {st : Stmt} {g : S} (h : SS X C st g) : SS X C st (sFrz i g) := ps_weak h fun Dn σ H z => lift_frz z
/-- a test that looks at the own list at x alone -/
def tBor (i : Nat) (f : T) : T := fun δ => match δ[i]? with
  | some (.own xs) => f (δ.set i (.v (.lst xs)))
  | _ => f δ
/-- data without lists -/
def noL : D → Bool
  | .lst _ => false
  | .tup xs => noLs xs
  | _ => true
where noLs : List D → Bool
  | [] => true
  | d :: ds => noL d && noLs ds
end
end Fs

/-! F7: list comprehensions. -/
namespace Fs
open PySem L2

def wipeD (δ : Sl) : List Nat → Sl
  | [] => δ
  | v :: vs => (wipeD δ vs).set v .un
theorem RE.setU {K : PySem.W.Frag} {C : Cc} {σ : L2.St} {δ : Sl} {G H : Hp} (r : RE K C σ δ G H) (i : Nat) (x : Option V) : RE K C (σ.set i x) (δ.set i .un) G H := by
  have nj : ∀ {j : Nat} {s : Slot}, (δ.set i Slot.un)[j]? = some s → s.isOwn = true → i ≠ j := fun {j s} hs os e => by
    subst e
    have hi : i < δ.length := by
      have := (List.getElem?_eq_some_iff.mp hs).1
      simpa using this
    rw [List.getElem?_set_self hi] at hs
    cases hs
    cases os
  refine ⟨r.st, by simp [r.len], fun j s hs => ?_, fun j k s t p hjk hs ht os ot => ?_⟩
  · by_cases e : i = j
    · subst e
      have hi : i < δ.length := by
        have := (List.getElem?_eq_some_iff.mp hs).1
        simpa using this
      rw [List.getElem?_set_self hi] at hs
      cases hs
      trivial
    · rw [List.getElem?_set_ne e] at hs
      rw [List.getElem?_set_ne e]
      exact r.sl j s hs
  · have e1 := nj hs os
    have e2 := nj ht ot
    rw [List.getElem?_set_ne e1] at hs
    rw [List.getElem?_set_ne e2] at ht
    rw [List.getElem?_set_ne e1, List.getElem?_set_ne e2]
    exact r.sep j k s t p hjk hs ht os ot
theorem RE.wipe {K : PySem.W.Frag} {C : Cc} {σ : L2.St} {δ : Sl} {G H : Hp} (r : RE K C σ δ G H) : ∀ vs : List Nat, RE K C (L2.wipe σ vs) (wipeD δ vs) G H
  | [] => r
  | v :: vs => (RE.wipe r vs).setU v none
theorem RE.wish {K : PySem.W.Frag} {C : Cc} {σ : L2.St} {δ : Sl} {G H : Hp} (r : RE K C σ δ G H) (W : WX) : RE K { C with W := W } σ δ G H := ⟨r.st, r.len, r.sl, r.sep⟩
theorem wipe_get (σ : L2.St) : ∀ (vs : List Nat) (j : Nat), (L2.wipe σ vs)[j]? = if j ∈ vs ∧ j < σ.length then some none else σ[j]?
  | [], j => by simp [L2.wipe]
  | v :: vs, j => by
    unfold L2.wipe
    by_cases e : v = j
    · subst e
      by_cases h : v < σ.length
      · rw [List.getElem?_set_self (by rw [wipe_length]; exact h), if_pos ⟨List.mem_cons_self .., h⟩]
      · rw [if_neg fun z => h z.2, List.getElem?_eq_none (by rw [List.length_set, wipe_length]; omega), List.getElem?_eq_none (by omega)]
    · rw [List.getElem?_set_ne e, wipe_get σ vs j]
      have : (j ∈ v :: vs) ↔ j ∈ vs := by simp [Ne.symm e]
      simp only [this]
theorem wipe_off {is vs : List Nat} {σ σ' : L2.St} (o : Off is (L2.wipe σ vs) σ') (h : ∀ i ∈ is, i ∈ vs) : L2.wipe σ' vs = L2.wipe σ vs := by
  have hl : σ'.length = σ.length := by rw [o.1, wipe_length]
  apply List.ext_getElem?
  intro j
  rw [wipe_get, wipe_get, hl]
  by_cases hj : j ∈ vs ∧ j < σ.length
  · rw [if_pos hj, if_pos hj]
  · rw [if_neg hj, if_neg hj]
    by_cases hj2 : j ∈ vs
    · have : ¬ j < σ.length := fun z => hj ⟨hj2, z⟩
      rw [List.getElem?_eq_none (by omega), List.getElem?_eq_none (by omega)]
    · rw [o.2 j fun z => hj2 (h j z), wipe_get, if_neg hj]

abbrev Cc.nox (C : Cc) : Cc := { C with W := fun _ _ _ _ => False }
/-- what the turns give -/
def lcD (p : Pt) (c : T) (e : E) (δ : Sl) : List D → R (List D)
  | [] => .ok []
  | d :: ds => match bindP p d δ with
    | none => .stk
    | some δ1 => match c δ1 with
      | .ok true => match e δ1 with
        | .ok y => match lcD p c e δ ds with
          | .ok r => .ok (y :: r)
          | _ => .stk
        | _ => .stk
      | .ok false => match lcD p c e δ ds with
        | .ok r => .ok r
        | _ => .stk
      | _ => .stk
def fLc (it : As) (vs : List Nat) (p : Pt) (c : T) (e : E) : Fr := fun δ => (it δ).bind fun items => (lcD p c e (wipeD δ vs) items).bind fun xs => if xs.length ≤ sizeLine then .ok xs else .stk
def tTrue : T := fun _ => .ok true
section
variable {X : Cx} {C : Cc} {pos : Pos}
theorem stp_app {G1 H1 G H : Hp} {p : Addr} {vs us : List V} (s : Stp G1 H1 G H) (hp : H1 p = none) (gp : G p = none) : Stp G1 H1 G (upd H p (.lst us)) :=
  ⟨s.g, fun a o ha => by rw [upd_ne (ne_of_none ha hp)]; exact s.h _ _ ha, fun a o ha => by rw [upd_ne (ne_of_none ha gp)]; exact s.sub _ _ ha, s.nw⟩
theorem lift_lc {K : PySem.W.Frag} {it : As} {vs : List Nat} {p : Pt} {c : T} {e : E} (hp : ∀ i ∈ idxP p, i ∈ vs) {σ : L2.St} {H : Hp} {Q : VK} (h : liftF K C (fLc it vs p c e) σ H Q) :
    tLc (liftI K C it) (liftG K C.nox p) (liftT K C.nox c) (liftE K C.nox e) vs σ H Q := by
  obtain ⟨δ, G, re, h⟩ := h
  refine ⟨δ, G, re, ?_⟩
  unfold fLc at h
  cases q : it δ with
  | stk => rw [q] at h; exact h
  | exc ex => rw [q] at h; exact h
  | ok items =>
    rw [q] at h
    intro J G1 H1 s1 ok L hD
    have h1 : onF K C σ G H ((lcD p c e (wipeD δ vs) items).bind fun xs => if xs.length ≤ sizeLine then .ok xs else .stk) fun _ p _ H' => Q (.ref p) H' := h
    cases q1 : lcD p c e (wipeD δ vs) items with
    | stk => rw [q1] at h1; exact h1.elim
    | exc ex =>
      exfalso
      -- the turns never raise
      have : ∀ ds : List D, ∀ ex, lcD p c e (wipeD δ vs) ds ≠ .exc ex := by
        intro ds
        induction ds with
        | nil => intro ex z; exact nomatch z
        | cons d ds ih =>
          intro ex z
          simp only [lcD] at z
          split at z
          · exact nomatch z
          · split at z
            · split at z
              · split at z <;> exact nomatch z
              · exact nomatch z
            · split at z <;> exact nomatch z
            · exact nomatch z
      exact this _ _ q1
    | ok xs =>
      rw [q1] at h1
      by_cases hz : xs.length ≤ sizeLine
      · have h2 : onF K C σ G H (.ok xs) fun _ p _ H' => Q (.ref p) H' := by
          have e9 : ((R.ok xs).bind fun xs => if xs.length ≤ sizeLine then R.ok xs else .stk) = R.ok xs := if_pos hz
          rw [e9] at h1
          exact h1
        refine ⟨fun i m H2 => m = items.length - i ∧ i ≤ items.length ∧ ∃ (G2 : Hp) (acc rest : List D) (va : List V), Stp G1 H1 G2 H2 ∧ G2 L = none ∧ H2 L = some (.lst va) ∧ RepL K G2 acc va ∧
          lcD p c e (wipeD δ vs) (items.drop i) = .ok rest ∧ acc ++ rest = xs, ⟨items.length, by simp, Nat.zero_le _, G1, [], xs, [], Stp.newH s1.sub hD _, s1.sub.free hD, upd_same, .nil, q1, rfl⟩, ?_⟩
        rintro i m H2 ⟨rfl, hi, G2, acc, rest, va, s2, gD, hDv, ra, el, ex⟩
        by_cases hlt : i < items.length
        · refine .inr ⟨ok.go i H2 (s2.g.trans s2.sub) hlt, fun H3 => ∃ (G2 : Hp) (acc rest : List D) (va : List V), Stp G1 H1 G2 H3 ∧ G2 L = none ∧ H3 L = some (.lst va) ∧ RepL K G2 acc va ∧
            lcD p c e (wipeD δ vs) (items.drop (i + 1)) = .ok rest ∧ acc ++ rest = xs, fun H' n => ⟨items.length - (i + 1), by omega, rfl, hlt, n⟩, fun x H' y => ?_⟩
          obtain ⟨d, G3, ed, s3, r3⟩ := ok.yld i H2 x H' G2 s2.g s2.sub hlt y
          have ed2 : items.drop i = d :: items.drop (i + 1) := by
            rw [List.drop_eq_getElem_cons hlt]
            rw [List.getElem?_eq_getElem hlt] at ed
            rw [Option.some.inj ed]
          rw [ed2] at el
          simp only [lcD] at el
          cases eb : bindP p d (wipeD δ vs) with
          | none => rw [eb] at el; exact nomatch el
          | some δ1 =>
            rw [eb] at el
            simp only at el
            have s23 := s2.trans s3
            have nD : ∀ {G' H' : Hp}, Stp G2 H2 G' H' → G' L = none := fun {G' H'} s => by
              cases z : G' L with
              | none => rfl
              | some o =>
                rcases s.nw L (by rw [z]; exact fun y => nomatch y) with y | y
                · exact absurd gD y
                · rw [hDv] at y; exact nomatch y
            refine ⟨d, wipeD δ vs, G3, δ1, ((((re.step s1).step s23).wipe vs).wish _), r3, eb, fun σ4 re4 o4 => ⟨wipe_off o4 hp, ?_⟩⟩
            refine ⟨δ1, G3, re4, ?_⟩
            cases ec : c δ1 with
            | stk => rw [ec] at el; exact nomatch el
            | exc _ => rw [ec] at el; exact nomatch el
            | ok b =>
              rw [ec] at el
              intro G4 H4 s4
              cases b with
              | true =>
                rw [if_pos rfl]
                simp only at el
                refine ⟨δ1, G4, re4.step s4, ?_⟩
                cases ee : e δ1 with
                | stk => rw [ee] at el; exact nomatch el
                | exc _ => rw [ee] at el; exact nomatch el
                | ok y0 =>
                  rw [ee] at el
                  intro v5 G5 H5 s5 r5
                  simp only at el
                  cases er : lcD p c e (wipeD δ vs) (items.drop (i + 1)) with
                  | stk => rw [er] at el; exact nomatch el
                  | exc _ => rw [er] at el; exact nomatch el
                  | ok rest2 =>
                    rw [er] at el
                    simp only [R.ok.injEq] at el
                    subst el
                    have s25 := (s3.trans s4).trans s5
                    have s15 := s2.trans s25
                    have g5 := nD s25
                    have hl := ra.length
                    have hl2 : acc.length + (rest2.length + 1) = xs.length := by rw [← ex]; simp
                    refine ⟨va, s25.h _ _ hDv, by omega, G5, acc ++ [y0], rest2, va ++ [v5], stp_app (vs := va) s15 hD g5, g5, upd_same, (ra.mono s25.g).append (RepL.one r5), rfl, ?_⟩
                    rw [List.append_assoc]
                    exact ex
              | false =>
                rw [if_neg Bool.false_ne_true]
                simp only at el
                cases er : lcD p c e (wipeD δ vs) (items.drop (i + 1)) with
                | stk => rw [er] at el; exact nomatch el
                | exc _ => rw [er] at el; exact nomatch el
                | ok rest2 =>
                  rw [er] at el
                  simp only [R.ok.injEq] at el
                  subst el
                  have s24 := s3.trans s4
                  exact ⟨G4, acc, rest2, va, s2.trans s24, nD s24, s24.h _ _ hDv, ra.mono s24.g, rfl, ex⟩
        · have ei : i = items.length := by omega
          subst ei
          rw [List.drop_length] at el
          simp only [lcD, R.ok.injEq] at el
          subst el
          rw [List.append_nil] at ex
          subst ex
          exact .inl ⟨ok.stop _ H2 (s2.g.trans s2.sub) (Nat.le_refl _), h2 L va G2 H2 (s1.trans s2) (s1.h.free hD) gD hDv ra⟩
      · have e9 : ((R.ok xs).bind fun xs => if xs.length ≤ sizeLine then R.ok xs else .stk) = R.stk := if_neg hz
        rw [e9] at h1
        exact h1.elim
abbrev STs (X : Cx) (C : Cc) (ifs : List Expr) (t : T) : Prop := PTs X ifs (liftT X.K C t)
theorem sts_nil : STs X C [] tTrue := ⟨fun pins s σ H Q I ⟨δ, G, re, h⟩ => pts_nil.run pins s σ H Q I (h G H (Stp.refl re.sub))⟩
theorem sts_one {c : Expr} {t : T} (h : ST X C c t) : STs X C [c] t := pts_one h
variable {elt tg iter : Expr} {ifs : List Expr} {scope : Scope} {it : As} {p : Pt} {c : T} {e : E}
theorem sf_lc (own : List (Str × Nat)) (hc : X.calm = true) (hN : X.N.Nodup) (hi : SI X C tg iter it) (ok : BlkOk X.N X.env.scope scope own) (hp : ∀ i ∈ idxP p, i ∈ own.map (·.2))
    (hg : ∀ (s : Shared) (H : Hp) (c0 : Addr) (cl : List (Str × Addr)) (fp : List Addr), SG (X.blk s H scope (compEnvC scope cl c0 X.env) fp) C.nox tg p)
    (ht : ∀ (s : Shared) (H : Hp) (c0 : Addr) (cl : List (Str × Addr)) (fp : List Addr), STs (X.blk s H scope (compEnvC scope cl c0 X.env) fp) C.nox ifs c)
    (he : ∀ (s : Shared) (H : Hp) (c0 : Addr) (cl : List (Str × Addr)) (fp : List Addr), SE (X.blk s H scope (compEnvC scope cl c0 X.env) fp) C.nox elt e) (hs : ∀ x, foldedSetIterable iter X.env x = pure x := by intro _; rfl) :
    SF X C (.ListComp elt [⟨tg, iter, ifs, 0⟩] scope pos) (fLc it (own.map (·.2)) p c e) :=
  pe_weak (pe_lc hc hN hi ok hg ht he hs) fun σ H Q h => lift_lc hp h
/-- y = [..] -/
theorem lift_ownLc {K : PySem.W.Frag} {f : Fr} {i : Nat} {Dn : Ends} {σ : L2.St} {H : Hp} {tlc : TE} (w : ∀ σ H Q, liftF K C f σ H Q → tlc σ H Q) (h : liftS K C (sOwn i f) Dn σ H) : tAsg tlc (gName i) Dn σ H := by
  refine w _ _ _ ?_
  obtain ⟨δ, G, re, h⟩ := h
  refine ⟨δ, G, re, ?_⟩
  unfold sOwn at h
  cases q : f δ with
  | stk => rw [q] at h; exact h
  | exc e => rw [q] at h; exact onX_of re h
  | ok xs =>
    rw [q] at h
    intro p vs G' H' s hp gp hh r
    exact h _ G' H' (re.setNew s i hp gp hh r) s.g
theorem lift_setLc {K : PySem.W.Frag} {f : Fr} {i : Nat} {Dn : Ends} {σ : L2.St} {H : Hp} {tlc : TE} (w : ∀ σ H Q, liftF K C f σ H Q → tlc σ H Q) (h : liftS K C (sSet i (eFz f)) Dn σ H) : tAsg tlc (gName i) Dn σ H := by
  refine w _ _ _ (lift_fz ?_)
  obtain ⟨δ, G, re, h⟩ := h
  exact ⟨δ, G, re, onR_mono (onS_R re h) fun d v G1 H1 s1 r1 h1 => h1 (σ.set i (some v)) G1 H1 ((re.step s1).setV i r1) (Same.refl _)⟩
theorem ss_setLc (i : Nat) {y : Str} {py spos : Pos} (own : List (Str × Nat)) (hc : X.calm = true) (hN : X.N.Nodup) (hy : X.N[i]? = some y) (hyl : X.env.scope.names.lookup y = some .local)
    (hsw : swapsWith (.ListComp elt [⟨tg, iter, ifs, 0⟩] scope pos) (some (.Name y py)) spos.line X.env = pure true) (hi : SI X C tg iter it) (ok : BlkOk X.N X.env.scope scope own) (hp : ∀ i ∈ idxP p, i ∈ own.map (·.2))
    (hg : ∀ (s : Shared) (H : Hp) (c0 : Addr) (cl : List (Str × Addr)) (fp : List Addr), SG (X.blk s H scope (compEnvC scope cl c0 X.env) fp) C.nox tg p)
    (ht : ∀ (s : Shared) (H : Hp) (c0 : Addr) (cl : List (Str × Addr)) (fp : List Addr), STs (X.blk s H scope (compEnvC scope cl c0 X.env) fp) C.nox ifs c)
    (he : ∀ (s : Shared) (H : Hp) (c0 : Addr) (cl : List (Str × Addr)) (fp : List Addr), SE (X.blk s H scope (compEnvC scope cl c0 X.env) fp) C.nox elt e) (hs : ∀ x, foldedSetIterable iter X.env x = pure x := by intro _; rfl) :
    SS X C (.Assign [.Name y py] (.ListComp elt [⟨tg, iter, ifs, 0⟩] scope pos) spos) (sSet i (eFz (fLc it (own.map (·.2)) p c e))) :=
  ps_weak (ps_setLc hc hN hy hyl hsw hi ok hg ht he hs) fun Dn σ H h => lift_setLc (fun _ _ _ z => lift_lc hp z) h
theorem ss_ownLc (i : Nat) {y : Str} {py spos : Pos} (own : List (Str × Nat)) (hc : X.calm = true) (hN : X.N.Nodup) (hy : X.N[i]? = some y) (hyl : X.env.scope.names.lookup y = some .local)
    (hsw : swapsWith (.ListComp elt [⟨tg, iter, ifs, 0⟩] scope pos) (some (.Name y py)) spos.line X.env = pure true) (hi : SI X C tg iter it) (ok : BlkOk X.N X.env.scope scope own) (hp : ∀ i ∈ idxP p, i ∈ own.map (·.2))
    (hg : ∀ (s : Shared) (H : Hp) (c0 : Addr) (cl : List (Str × Addr)) (fp : List Addr), SG (X.blk s H scope (compEnvC scope cl c0 X.env) fp) C.nox tg p)
    (ht : ∀ (s : Shared) (H : Hp) (c0 : Addr) (cl : List (Str × Addr)) (fp : List Addr), STs (X.blk s H scope (compEnvC scope cl c0 X.env) fp) C.nox ifs c)
    (he : ∀ (s : Shared) (H : Hp) (c0 : Addr) (cl : List (Str × Addr)) (fp : List Addr), SE (X.blk s H scope (compEnvC scope cl c0 X.env) fp) C.nox elt e) (hs : ∀ x, foldedSetIterable iter X.env x = pure x := by intro _; rfl) :
    SS X C (.Assign [.Name y py] (.ListComp elt [⟨tg, iter, ifs, 0⟩] scope pos) spos) (sOwn i (fLc it (own.map (·.2)) p c e)) :=
  ps_weak (ps_setLc hc hN hy hyl hsw hi ok hg ht he hs) fun Dn σ H h => lift_ownLc (fun _ _ _ z => lift_lc hp z) h
end
end Fs

/-! F8: the ends, further rules. -/
namespace Fs
open PySem L2

theorem hu_big {A : Around} {k : Nat} (hr : Room k A) : A.units + 64 < cLine := hr.units
/-- turns that a while may take -/
def fuel : Nat := 100000
theorem law_sp {K : PySem.W.Frag} {ct : String → Addr} {H : Hp} {a : Addr} {ns : List Int} {F : List D → R D} (hS : SqL K H a (ns.map V.int)) (h : F [.lst (ns.map D.int)] = .ok (.bl true)) :
    spD K ct 1 F [.ref a] H (fun v _ => v = .bl true) fun _ _ _ => False :=
  ⟨H, [.lst (ns.map D.int)], rfl, Same.refl _, .cons (.lst hS (RepL.ints ns)) .nil, by
    rw [h]
    intro v G' H' s r
    cases r
    rfl⟩
theorem law_cx {P : Program} {w : World} {H : Hp} {s : Shared} {e : Value} {s' : Shared} (h : L2.CX P w [] H s (fun _ _ _ => False) e s') : False := by
  obtain ⟨_, _, _, _, _, _, _, _, _, _, _, _, z⟩ := h
  exact z
section
variable {X : Cx} {C : Cc} {pos : Pos} {a b : Expr} {fa fb : E} {rest : List Expr}
theorem lift_nt {K : PySem.W.Frag} {σ : L2.St} {H : Hp} {Q : VK} (h : liftE K C (eNt fa) σ H Q) : tNotV (liftE K C fa) σ H Q := by
  obtain ⟨δ, G, re, h⟩ := h
  refine ⟨δ, G, re, onR_mono (onR_RR h) fun d v G1 H1 s1 r1 h1 => ?_⟩
  cases r1 with
  | bl k => exact ⟨k, rfl, onR_self s1.sub h1 (.bl _)⟩
  | non => exact h1.elim
  | int i => exact h1.elim
  | str x => exact h1.elim
  | fn x => exact h1.elim
  | dct p l q => exact h1.elim
  | tup p q => exact h1.elim
  | lst p q => exact h1.elim
theorem se_nt (ha : SE X C a fa) : SE X C (.UnaryOp .Not a pos) (eNt fa) := pe_weak (pe_not ha) fun σ H Q h => lift_nt h
theorem se_one {op : BoolOp} (ha : SE X C a fa) : SE X C (.BoolOp op [a] pos) fa := pe_one ha
theorem se_and (ha : SE X C a fa) (hb : SE X C (.BoolOp .And (b :: rest) pos) fb) : SE X C (.BoolOp .And (a :: b :: rest) pos) (eAn fa fb) := pe_weak (pe_and ha hb) fun σ H Q h => lift_anV h
theorem se_or (ha : SE X C a fa) (hb : SE X C (.BoolOp .Or (b :: rest) pos) fb) : SE X C (.BoolOp .Or (a :: b :: rest) pos) (eOr fa fb) := pe_weak (pe_or ha hb) fun σ H Q h => lift_orV h
end
def gAddI : B2
  | .int i, .int j => some (.int (i + j))
  | .str x, .str y => if x.length + y.length ≤ sizeLine then some (.str (x ++ y)) else none
  | _, _ => none
section
variable {X : Cx} {C : Cc} {pos : Pos} {tg : Expr}
theorem io_addI : OpR X (inplaceOp .Add) (rD X.K gAddI) := by
  intro pins s σ H x y v u Q I rx ry h
  obtain ⟨G, dx, dy, d, e, sub, r1, r2, h⟩ := h
  cases r1 <;> cases r2 <;> simp only [gAddI, Option.some.injEq, reduceCtorEq] at e
  · subst e
    exact iop_add pins s σ H _ _ v u Q I rx ry ⟨_, _, rfl, rfl, h _ G H (Stp.refl sub) (.int _)⟩
  · split at e
    · rename_i hz
      simp only [Option.some.injEq] at e
      subst e
      exact iop_add_str pins s σ H _ _ v u Q I rx ry ⟨_, _, rfl, rfl, hz, h _ G H (Stp.refl sub) (.str _)⟩
    · exact nomatch e
/-! ### reversed(range(a, b)) -/
theorem itOk_rngC {K : PySem.W.Frag} {G : Hp} {lo : Int} {n : Nat} : ItOk K (Itc (lo + (n : Int) - 1) (-1) n) G (rngD lo n).reverse where
  go := fun i H s hi => by show i < n; simpa [rngD] using hi
  stop := fun i H s hi => by show n ≤ i; simpa [rngD] using hi
  yld := fun i H v H' Gc s1 s2 hi y => by
    obtain ⟨rfl, rfl⟩ := y
    have hi' : i < n := by simpa [rngD] using hi
    refine ⟨_, Gc, ?_, Stp.refl s2, .int _⟩
    rw [List.getElem?_reverse (by simpa [rngD] using hi'), ints_get (by simp only [rngD, List.length_map, List.length_range]; omega)]
    congr 2
    simp only [rngD, List.length_map, List.length_range]
    omega
def iRevR2 (a b : E) : As := fun δ => (a δ).bind fun x => (b δ).bind fun y => match x, y with
  | .int i, .int j => if -(2 ^ 62) ≤ i ∧ i < 2 ^ 62 ∧ -(2 ^ 62) ≤ j ∧ j < 2 ^ 62 then .ok (rngD i (j - i).toNat).reverse else .stk
  | _, _ => .stk
theorem onR_RI {K : PySem.W.Frag} {σ : L2.St} {G H : Hp} {r : R D} {k : D → R (List D)} {P : List D → It → Hp → Hp → Prop} (h : onI K C σ G H (r.bind k) P) : onR K C σ G H r fun ds _ G1 H1 => onI K C σ G1 H1 (k ds) P := by
  cases r with
  | ok d =>
    intro v G1 H1 s q
    have h' : onI K C σ G H (k d) P := h
    show onI K C σ G1 H1 (k d) P
    cases e : k d with
    | ok d2 => rw [e] at h'; exact fun J G2 H2 s2 q2 => h' J G2 H2 (s.trans s2) q2
    | exc e2 => rw [e] at h'; exact onX_step h' s
    | stk => rw [e] at h'; exact h'
  | exc e => exact h
  | stk => exact h
theorem si_revR2 {a b : Expr} {fa fb : E} {p p2 pos pos2 : Pos} (hg : Gl X "reversed") (hm : X.mg "reversed" = none) (hgr : Gl X "range") (hmr : X.mg "range" = none) (ha : SE X C a fa) (hb : SE X C b fb)
    (hs : starEach [.Call (.Name "range" p2) [a, b] [] pos2] X.env = (false, eval (.Call (.Name "range" p2) [a, b] [] pos2) X.env) :: starEach [] X.env := by rfl)
    (hs1 : starEach [a, b] X.env = (false, eval a X.env) :: starEach [b] X.env := by rfl) (hs2 : starEach [b] X.env = (false, eval b X.env) :: starEach [] X.env := by rfl) (hp : (backTo pos2 (starEach [b] X.env)).any (·.1) = false := by rfl) :
    SI X C tg (.Call (.Name "reversed" p) [.Call (.Name "range" p2) [a, b] [] pos2] [] pos) (iRevR2 fa fb) :=
  pi_weak (pi_revR hg hm (prg_2 hgr hmr ha hb hs1 hs2 hp) hs) fun σ H R ⟨δ, G, re, h⟩ => ⟨δ, G, re, onR_mono (onR_RI h) fun d v G1 H1 s1 r1 h1 => ⟨δ, G1, re.step s1, onR_mono (onR_RI h1) fun d2 v2 G2 H2 s2 r2 h2 => by
    cases r1 <;> cases r2 <;> first
      | exact h2.elim
      | (simp only at h2
         split at h2
         · rename_i hz
           exact ⟨_, _, rfl, rfl, hz.1, hz.2.1, hz.2.2.1, hz.2.2.2, h2 _ G2 H2 (Stp.refl s2.sub) itOk_rngC⟩
         · exact h2.elim)⟩⟩
/-- x.extend(e) -/
theorem ss_ext (i : Nat) {x : Str} {p1 p2 p3 : Pos} {a : Expr} {fa : E} (ha : SE X C a fa) : True := trivial
end
end Fs

/-! F9: reckoning with the functions over data. -/
namespace Fs
open PySem L2

theorem R.bind_ok {α β : Type} (a : α) (k : α → R β) : (R.ok a).bind k = k a := rfl
theorem R.bind_exc {α β : Type} (e : Ex) (k : α → R β) : (R.exc e).bind k = .exc e := rfl
theorem R.ofO_some {α : Type} (a : α) : R.ofO (some a) = .ok a := rfl
theorem sBind_ok {α : Type} (a : α) (δ : Sl) (k : α → RS) : sBind (.ok a) δ k = k a := rfl
theorem sSeq_nx {f g : S} {δ δ' : Sl} (h : f δ = .nx δ') : sSeq f g δ = g δ' := by unfold sSeq; rw [h]
theorem sSeq_rt {f g : S} {δ : Sl} {d : D} (h : f δ = .rt d) : sSeq f g δ = .rt d := by unfold sSeq; rw [h]
theorem runD_rt {N : Nat} {body : S} {ds : List D} {d : D} (h : body (ds.map .v ++ List.replicate (N - ds.length) .un) = .rt d) : runD N body ds = .ok d := by unfold runD; rw [h]
theorem runD_nx {N : Nat} {body : S} {ds : List D} {δ : Sl} (h : body (ds.map .v ++ List.replicate (N - ds.length) .un) = .nx δ) : runD N body ds = .ok .non := by unfold runD; rw [h]
theorem runD_exc {N : Nat} {body : S} {ds : List D} {e : Ex} {δ : Sl} (h : body (ds.map .v ++ List.replicate (N - ds.length) .un) = .exc e δ) : runD N body ds = .exc e := by unfold runD; rw [h]

/-- a loop whose turns go on -/
theorem forD_inv {p : Pt} {body : S} (Inv : Nat → Sl → Prop) : ∀ (items : List D) (k : Nat) (δ : Sl), Inv k δ →
    (∀ i d δ, items[i]? = some d → Inv (k + i) δ → ∃ δ1, bindP p d δ = some δ1 ∧ ∃ δ2, body δ1 = .nx δ2 ∧ Inv (k + i + 1) δ2) → ∃ δ', forD p body items δ = .nx δ' ∧ Inv (k + items.length) δ'
  | [], k, δ, h0, _ => ⟨δ, rfl, h0⟩
  | d :: ds, k, δ, h0, hs => by
    obtain ⟨δ1, e1, δ2, e2, h2⟩ := hs 0 d δ rfl h0
    obtain ⟨δ', e3, h3⟩ := forD_inv Inv ds (k + 1) δ2 h2 fun i d δ hd hi => by
      have z := hs (i + 1) d δ (by simpa using hd) (by rw [show k + (i + 1) = k + 1 + i by omega]; exact hi)
      rw [show k + (i + 1) + 1 = k + 1 + i + 1 by omega] at z
      exact z
    refine ⟨δ', ?_, by rw [List.length_cons, show k + (ds.length + 1) = k + 1 + ds.length by omega]; exact h3⟩
    simp only [forD, e1, e2, e3]
theorem rngD_length (lo : Int) (n : Nat) : (rngD lo n).length = n := by simp [rngD]
theorem rngD_some {lo : Int} {n i : Nat} {d : D} (h : (rngD lo n)[i]? = some d) : i < n ∧ d = .int (lo + (i : Int)) := by
  have hi : i < n := by
    have := (List.getElem?_eq_some_iff.mp h).1
    simpa [rngD] using this
  rw [ints_get hi] at h
  exact ⟨hi, (Option.some.inj h).symm⟩
/-- a loop over a range whose turns go on -/
theorem forR {p : Pt} {body : S} {lo : Int} {n : Nat} {δ : Sl} (Inv : Nat → Sl → Prop) (h0 : Inv 0 δ)
    (hs : ∀ i δ, i < n → Inv i δ → ∃ δ1, bindP p (.int (lo + (i : Int))) δ = some δ1 ∧ ∃ δ2, body δ1 = .nx δ2 ∧ Inv (i + 1) δ2) : ∃ δ', forD p body (rngD lo n) δ = .nx δ' ∧ Inv n δ' := by
  have z := forD_inv (p := p) (body := body) Inv (rngD lo n) 0 δ h0 fun i d δ hd hi => by
    obtain ⟨h1, h2⟩ := rngD_some hd
    subst h2
    rw [Nat.zero_add] at hi ⊢
    exact hs i δ h1 hi
  rw [Nat.zero_add, rngD_length] at z
  exact z

theorem ixN_ofNat {n j : Nat} (h : j < n) : ixN n (j : Int) = some j := by
  unfold ixN
  rw [if_pos (by omega), if_pos (by omega)]
  simp
theorem atI_ofNat {α : Type} (xs : List α) {j : Nat} (h : j < xs.length) : atI xs (j : Int) = some xs[j] := by
  unfold atI
  rw [ixN_ofNat h]
  exact List.getElem?_eq_getElem h

/-! ### sizes of products -/
theorem bits_le {i : Int} {a : Nat} (h : i.natAbs < 2 ^ a) : Builtin.Int.intBits i ≤ a := by
  unfold Builtin.Int.intBits
  split
  · exact Nat.zero_le _
  · rename_i hz
    have hz' : i.natAbs ≠ 0 := by
      simp only [beq_iff_eq] at hz
      omega
    exact Nat.succ_le_of_lt ((Nat.log2_lt hz').mpr h)
theorem mul_fits {i j : Int} {a b : Nat} (ha : i.natAbs < 2 ^ a) (hb : j.natAbs < 2 ^ b) (h : a + b ≤ 134217728) : IntMulOk i j := mulx_ok ha hb h |>.ok
theorem mul_fitsL {i j : Int} (ha : i.natAbs < 2 ^ 64) : IntMulOk i j := .of_left (bits_le ha)
theorem mul_fitsR {i j : Int} (ha : j.natAbs < 2 ^ 64) : IntMulOk i j := .of_right (bits_le ha)
theorem log_lt {n a : Nat} (h : n < 2 ^ a) (h0 : 0 < a) : n.log2 < a := by
  by_cases hz : n = 0
  · subst hz
    simpa using h0
  · exact (Nat.log2_lt hz).mpr h

@[simp] theorem mulOk_m1 (j : Int) : IntMulOk (-1) j := mul_fitsL (by decide)
@[simp] theorem mulOk_1 (j : Int) : IntMulOk 1 j := mul_fitsL (by decide)
@[simp] theorem mulOk_2 (j : Int) : IntMulOk 2 j := mul_fitsL (by decide)
@[simp] theorem mulOk_3 (j : Int) : IntMulOk 3 j := mul_fitsL (by decide)
@[simp] theorem mulOk_r2 (j : Int) : IntMulOk j 2 := mul_fitsR (by decide)
@[simp] theorem mulOk_r1000 (j : Int) : IntMulOk j 1000 := mul_fitsR (by decide)
@[simp] theorem mulOk_r1000003 (j : Int) : IntMulOk j 1000003 := mul_fitsR (by decide)
theorem log_small {n : Nat} (h : n < 2 ^ 64) : n.log2 < 9000 := Nat.lt_of_lt_of_le (log_lt h (by decide)) (by decide)
/-! ### unfolding -/
@[simp] theorem v_bind_ok {α β : Type} (a : α) (k : α → R β) : (R.ok a).bind k = k a := id rfl
@[simp] theorem v_bind_exc {α β : Type} (e : Ex) (k : α → R β) : (R.exc e).bind k = .exc e := id rfl
@[simp] theorem v_bind_stk {α β : Type} (k : α → R β) : (R.stk : R α).bind k = .stk := id rfl
@[simp] theorem v_ofO_some {α : Type} (a : α) : R.ofO (some a) = .ok a := id rfl
@[simp] theorem v_ofO_none {α : Type} : R.ofO (none : Option α) = .stk := id rfl
@[simp] theorem v_sBind_ok {α : Type} (a : α) (δ : Sl) (k : α → RS) : sBind (.ok a) δ k = k a := id rfl
@[simp] theorem v_sBind_exc {α : Type} (e : Ex) (δ : Sl) (k : α → RS) : sBind (.exc e : R α) δ k = .exc e δ := id rfl
@[simp] theorem v_sBind_stk {α : Type} (δ : Sl) (k : α → RS) : sBind (.stk : R α) δ k = .stk := id rfl
@[simp] theorem v_eV (i : Nat) (δ : Sl) : eV i δ = (match δ[i]? with | some (.v d) => .ok d | _ => .stk) := id rfl
@[simp] theorem v_eC (d : D) (δ : Sl) : eC d δ = .ok d := id rfl
@[simp] theorem v_eBin (g : B2) (a b : E) (δ : Sl) : eBin g a b δ = (a δ).bind fun x => (b δ).bind fun y => R.ofO (g x y) := id rfl
@[simp] theorem v_eUn (g : B1) (a : E) (δ : Sl) : eUn g a δ = (a δ).bind fun x => R.ofO (g x) := id rfl
@[simp] theorem v_eFn (g : BA) (a : As) (δ : Sl) : eFn g a δ = (a δ).bind fun x => R.ofO (g x) := id rfl
@[simp] theorem v_eCall (F : List D → R D) (a : As) (δ : Sl) : eCall F a δ = (a δ).bind F := id rfl
@[simp] theorem v_tV (f : E) (δ : Sl) : tV f δ = (f δ).bind fun d => match d with | .bl b => .ok b | _ => .stk := id rfl
@[simp] theorem v_tNt (f : T) (δ : Sl) : tNt f δ = (f δ).bind fun b => .ok (!b) := id rfl
@[simp] theorem v_tAn (f g : T) (δ : Sl) : tAn f g δ = (f δ).bind fun b => if b = true then g δ else .ok false := id rfl
@[simp] theorem v_tOrr (f g : T) (δ : Sl) : tOrr f g δ = (f δ).bind fun b => if b = true then .ok true else g δ := id rfl
@[simp] theorem v_tTrue (δ : Sl) : tTrue δ = .ok true := id rfl
@[simp] theorem v_eAn (a b : E) (δ : Sl) : eAn a b δ = (a δ).bind fun x => match x with | .bl true => b δ | .bl false => .ok (.bl false) | _ => .stk := id rfl
@[simp] theorem v_eOr (a b : E) (δ : Sl) : eOr a b δ = (a δ).bind fun x => match x with | .bl true => .ok (.bl true) | .bl false => b δ | _ => .stk := id rfl
@[simp] theorem v_eNt (a : E) (δ : Sl) : eNt a δ = (a δ).bind fun x => match x with | .bl k => .ok (.bl !k) | _ => .stk := id rfl
@[simp] theorem v_eIf (t : T) (a b : E) (δ : Sl) : eIf t a b δ = (t δ).bind fun k => if k = true then a δ else b δ := id rfl
@[simp] theorem v_aNil (δ : Sl) : aNil δ = .ok [] := id rfl
@[simp] theorem v_aCons (f : E) (r : As) (δ : Sl) : aCons f r δ = (f δ).bind fun x => (r δ).bind fun xs => .ok (x :: xs) := id rfl
@[simp] theorem v_eTup (r : As) (δ : Sl) : eTup r δ = (r δ).bind fun xs => if xs.length ≤ sizeLine then .ok (.tup xs) else .stk := id rfl
@[simp] theorem v_eFz (f : Fr) (δ : Sl) : eFz f δ = (f δ).bind fun xs => .ok (.lst xs) := id rfl
@[simp] theorem v_fLst (r : As) (δ : Sl) : fLst r δ = (r δ).bind fun xs => if xs.length ≤ sizeLine then .ok xs else .stk := id rfl
@[simp] theorem v_fList (f : E) (δ : Sl) : fList f δ = (f δ).bind fun d => match d with | .lst xs => .ok xs | .tup xs => .ok xs | _ => .stk := id rfl
@[simp] theorem v_sNx (δ : Sl) : sNx δ = .nx δ := id rfl
@[simp] theorem v_sBk (δ : Sl) : sBk δ = .bk δ := id rfl
@[simp] theorem v_sCt (δ : Sl) : sCt δ = .ct δ := id rfl
@[simp] theorem v_sSeq (f g : S) (δ : Sl) : sSeq f g δ = (match f δ with | .nx δ' => g δ' | r => r) := id rfl
@[simp] theorem v_sRet (f : E) (δ : Sl) : sRet f δ = sBind (f δ) δ fun d => .rt d := id rfl
@[simp] theorem v_sRetN (δ : Sl) : sRetN δ = .rt .non := id rfl
@[simp] theorem v_sIf (t : T) (a b : S) (δ : Sl) : sIf t a b δ = sBind (t δ) δ fun k => if k = true then a δ else b δ := id rfl
@[simp] theorem v_sSet (i : Nat) (f : E) (δ : Sl) : sSet i f δ = sBind (f δ) δ fun d => .nx (δ.set i (.v d)) := id rfl
@[simp] theorem v_sAsg (p : Pt) (f : E) (δ : Sl) : sAsg p f δ = sBind (f δ) δ fun d => sBindP p d δ := id rfl
@[simp] theorem v_sFor (it : As) (p : Pt) (b : S) (δ : Sl) : sFor it p b δ = sBind (it δ) δ fun items => forD p b items δ := id rfl
@[simp] theorem v_sOwn (i : Nat) (f : Fr) (δ : Sl) : sOwn i f δ = sBind (f δ) δ fun xs => .nx (δ.set i (.own xs)) := id rfl
@[simp] theorem v_sApp (i : Nat) (f : E) (δ : Sl) : sApp i f δ = (match δ[i]? with | some (.own xs) => sBind (f δ) δ fun d => if xs.length < sizeLine then .nx (δ.set i (.own (xs ++ [d]))) else .stk | _ => .stk) := id rfl
@[simp] theorem v_sFrz (i : Nat) (f : S) (δ : Sl) : sFrz i f δ = (match δ[i]? with | some (.own xs) => f (δ.set i (.v (.lst xs))) | _ => f δ) := id rfl
@[simp] theorem v_sAug (i : Nat) (g : B2) (f : E) (δ : Sl) : sAug i g f δ = (match δ[i]? with | some (.v x) => sBind (f δ) δ fun y => (match g x y with | some z => .nx (δ.set i (.v z)) | none => .stk) | _ => .stk) := id rfl
@[simp] theorem v_nm (i : Nat) (d : D) (δ : Sl) : bindP (.nm i) d δ = some (δ.set i (.v d)) := by simp [bindP]
@[simp] theorem v_tp (ps : List Pt) (ds : List D) (δ : Sl) : bindP (.tp ps) (.tup ds) δ = bindPs ps ds δ := by simp [bindP]
@[simp] theorem v_tpl (ps : List Pt) (ds : List D) (δ : Sl) : bindP (.tp ps) (.lst ds) δ = bindPs ps ds δ := by simp [bindP]
@[simp] theorem v_ps0 (δ : Sl) : bindPs [] [] δ = some δ := by simp [bindPs]
@[simp] theorem v_ps1 (p : Pt) (ps : List Pt) (d : D) (ds : List D) (δ : Sl) : bindPs (p :: ps) (d :: ds) δ = (match bindP p d δ with | some δ' => bindPs ps ds δ' | none => none) := by cases h : bindP p d δ <;> simp [bindPs, h]
@[simp] theorem v_sBindP (p : Pt) (d : D) (δ : Sl) : sBindP p d δ = (match bindP p d δ with | some δ' => .nx δ' | none => .stk) := id rfl
def rngOk (j : Int) : Prop := -(2 ^ 62) ≤ j ∧ j < 2 ^ 62
instance (j : Int) : Decidable (rngOk j) := inferInstanceAs (Decidable (-(2 ^ 62) ≤ j ∧ j < 2 ^ 62))
theorem rngOk_of {j : Int} (h1 : -1000000000 ≤ j) (h2 : j ≤ 1000000000) : rngOk j := by
  unfold rngOk
  omega
theorem rngOk_nat {j : Nat} (h : j ≤ 1000000000) : rngOk (j : Int) := rngOk_of (by omega) (by omega)
@[simp] theorem rngOk_0 : rngOk 0 := rngOk_of (by omega) (by omega)
@[simp] theorem rngOk_1 : rngOk 1 := rngOk_of (by omega) (by omega)
@[simp] theorem v_iRange1 (a : As) (δ : Sl) : iRange1 a δ = (a δ).bind fun ds => match ds with | [.int j] => if rngOk j then .ok (rngD 0 j.toNat) else .stk | _ => .stk := id rfl
@[simp] theorem v_iRange2 (a : As) (δ : Sl) : iRange2 a δ = (a δ).bind fun ds => match ds with | [.int i, .int j] => if rngOk i ∧ rngOk j then .ok (rngD i (j - i).toNat) else .stk | _ => .stk := by
  unfold iRange2 rngOk
  congr 1
  funext ds
  split <;> simp only [and_assoc]
@[simp] theorem v_iRevR2 (a b : E) (δ : Sl) : iRevR2 a b δ = (a δ).bind fun x => (b δ).bind fun y => match x, y with | .int i, .int j => if rngOk i ∧ rngOk j then .ok (rngD i (j - i).toNat).reverse else .stk | _, _ => .stk := by
  unfold iRevR2 rngOk
  congr 1
  funext x
  congr 1
  funext y
  split <;> simp only [and_assoc]
@[simp] theorem v_iSeq (f : E) (δ : Sl) : iSeq f δ = (f δ).bind fun d => match d with | .lst xs => .ok xs | .tup xs => .ok xs | .str x => .ok (signs x) | _ => .stk := id rfl
def enumD (xs : List D) : List D := xs.zipIdx.map fun p => .tup [.int (p.2 : Nat), p.1]
@[simp] theorem v_iEnumD (a : As) (δ : Sl) : iEnumD a δ = (a δ).bind fun ds => match ds with | [.lst xs] => .ok (enumD xs) | _ => .stk := id rfl
@[simp] theorem v_iRevD (a : As) (δ : Sl) : iRevD a δ = (a δ).bind fun ds => match ds with | [.lst xs] => .ok xs.reverse | _ => .stk := id rfl
@[simp] theorem v_eSl (a : E) (lo hi : Os) (δ : Sl) : eSl a lo hi δ = (a δ).bind fun x => (lo δ).bind fun l => (hi δ).bind fun h => R.ofO (gSl x l h) := id rfl
@[simp] theorem v_oNone (δ : Sl) : oNone δ = .ok none := id rfl
@[simp] theorem v_oSome (f : E) (δ : Sl) : oSome f δ = (f δ).bind fun d => match d with | .int i => .ok (some i) | _ => .stk := id rfl
@[simp] theorem v_fLc (it : As) (vs : List Nat) (p : Pt) (c : T) (e : E) (δ : Sl) : fLc it vs p c e δ = (it δ).bind fun items => (lcD p c e (wipeD δ vs) items).bind fun xs => if xs.length ≤ sizeLine then .ok xs else .stk := id rfl
@[simp] theorem v_eChain (g g' : B2) (a b c : E) (δ : Sl) : eChain g g' a b c δ = (a δ).bind fun x => (b δ).bind fun y => (R.ofO (g x y)).bind fun z => match z with | .bl true => (c δ).bind fun w => R.ofO (g' y w) | .bl false => .ok (.bl false) | _ => .stk := id rfl
@[simp] theorem v_add (i j : Int) : gAdd (.int i) (.int j) = some (.int (i + j)) := id rfl
@[simp] theorem v_addI (i j : Int) : gAddI (.int i) (.int j) = some (.int (i + j)) := id rfl
@[simp] theorem v_sub (i j : Int) : gSub (.int i) (.int j) = some (.int (i - j)) := id rfl
@[simp] theorem v_mul (i j : Int) : gMul (.int i) (.int j) = if IntMulOk i j then some (.int (i * j)) else none := id rfl
def divOk (j : Int) : Prop := 0 < j ∧ j.natAbs.log2 < 9000
instance (j : Int) : Decidable (divOk j) := inferInstanceAs (Decidable (0 < j ∧ j.natAbs.log2 < 9000))
theorem divOk_of {j : Int} {a : Nat} (h : 0 < j) (h2 : j.natAbs < 2 ^ a) (h3 : a ≤ 8999) : divOk j := ⟨h, by
  by_cases h0 : 0 < a
  · exact Nat.lt_of_lt_of_le (log_lt h2 h0) (by omega)
  · have e : a = 0 := by omega
    subst e
    have : (2 : Nat) ^ 0 = 1 := rfl
    omega⟩
theorem divOk_small {j : Int} (h : 0 < j) (h2 : j < 10 ^ 18) : divOk j := divOk_of (a := 64) h (by
  have : (10 : Int) ^ 18 < ((2 ^ 64 : Nat) : Int) := by decide
  omega) (by decide)
@[simp] theorem divOk_1 : divOk 1 := divOk_small (by decide) (by decide)
@[simp] theorem divOk_2 : divOk 2 := divOk_small (by decide) (by decide)
@[simp] theorem divOk_3 : divOk 3 := divOk_small (by decide) (by decide)
@[simp] theorem divOk_4 : divOk 4 := divOk_small (by decide) (by decide)
@[simp] theorem divOk_5 : divOk 5 := divOk_small (by decide) (by decide)
@[simp] theorem divOk_6 : divOk 6 := divOk_small (by decide) (by decide)
@[simp] theorem divOk_7 : divOk 7 := divOk_small (by decide) (by decide)
@[simp] theorem divOk_8 : divOk 8 := divOk_small (by decide) (by decide)
@[simp] theorem divOk_9 : divOk 9 := divOk_small (by decide) (by decide)
@[simp] theorem divOk_10 : divOk 10 := divOk_small (by decide) (by decide)
@[simp] theorem divOk_11 : divOk 11 := divOk_small (by decide) (by decide)
@[simp] theorem divOk_12 : divOk 12 := divOk_small (by decide) (by decide)
@[simp] theorem divOk_24 : divOk 24 := divOk_small (by decide) (by decide)
@[simp] theorem divOk_41 : divOk 41 := divOk_small (by decide) (by decide)
@[simp] theorem divOk_48 : divOk 48 := divOk_small (by decide) (by decide)
@[simp] theorem divOk_60 : divOk 60 := divOk_small (by decide) (by decide)
@[simp] theorem divOk_64 : divOk 64 := divOk_small (by decide) (by decide)
@[simp] theorem divOk_100 : divOk 100 := divOk_small (by decide) (by decide)
@[simp] theorem divOk_1000 : divOk 1000 := divOk_small (by decide) (by decide)
@[simp] theorem v_div (i j : Int) : gDiv (.int i) (.int j) = if divOk j then some (.int (i / j)) else none := id rfl
@[simp] theorem v_mod (i j : Int) : gMod (.int i) (.int j) = if 0 < j then some (.int (i % j)) else none := id rfl
def powOk (i j : Int) : Prop := 0 ≤ j ∧ (Builtin.Int.intBits i : Int) * j ≤ 2 ^ 27
instance (i j : Int) : Decidable (powOk i j) := inferInstanceAs (Decidable (0 ≤ j ∧ (Builtin.Int.intBits i : Int) * j ≤ 2 ^ 27))
theorem powOk_of {i j : Int} {a : Nat} (hi : i.natAbs < 2 ^ a) (h0 : 0 ≤ j) (h : (a : Int) * j ≤ 134217728) : powOk i j := ⟨h0, by
  have h1 := bits_le hi
  have h2 : (Builtin.Int.intBits i : Int) * j ≤ (a : Int) * j := Int.mul_le_mul_of_nonneg_right (by omega) h0
  omega⟩
@[simp] theorem powOk_10 {j : Int} (h0 : 0 ≤ j) (h : j ≤ 1000) : powOk 10 j := powOk_of (a := 4) (by decide) h0 (by omega)
@[simp] theorem powOk_2 {j : Int} (h0 : 0 ≤ j) (h : j ≤ 1000000) : powOk 2 j := powOk_of (a := 2) (by decide) h0 (by omega)
@[simp] theorem powOk_1e60 {j : Int} (h0 : 0 ≤ j) (h : j ≤ 1000) : powOk 1000000000000000000000000000000000000000000000000000000000000 j := powOk_of (a := 200) (by decide) h0 (by omega)
@[simp] theorem v_pow (i j : Int) : gPow (.int i) (.int j) = if powOk i j then some (.int (i ^ j.toNat)) else none := id rfl
@[simp] theorem v_lt (i j : Int) : gLt (.int i) (.int j) = some (.bl (decide (i < j))) := id rfl
@[simp] theorem v_le (i j : Int) : gLe (.int i) (.int j) = some (.bl (decide (i ≤ j))) := id rfl
@[simp] theorem v_gt (i j : Int) : gGt (.int i) (.int j) = some (.bl (decide (j < i))) := id rfl
@[simp] theorem v_ge (i j : Int) : gGe (.int i) (.int j) = some (.bl (decide (j ≤ i))) := id rfl
@[simp] theorem v_eqI (i j : Int) : gEq (.int i) (.int j) = some (.bl (decide (i = j))) := id rfl
@[simp] theorem v_neI (i j : Int) : gNe (.int i) (.int j) = some (.bl (!decide (i = j))) := id rfl
@[simp] theorem v_neg (i : Int) : gNeg (.int i) = some (.int (-i)) := id rfl
@[simp] theorem v_lenL (xs : List D) : gLen [.lst xs] = some (.int xs.length) := id rfl
@[simp] theorem v_lenT (xs : List D) : gLen [.tup xs] = some (.int xs.length) := id rfl
@[simp] theorem v_lenS (x : Str) : gLen [.str x] = if x.length ≤ sizeLine then some (.int x.length) else none := id rfl
@[simp] theorem v_min2 (i j : Int) : gMin2 [.int i, .int j] = some (.int (if j < i then j else i)) := id rfl
@[simp] theorem v_max2 (i j : Int) : gMax2 [.int i, .int j] = some (.int (if j > i then j else i)) := id rfl
@[simp] theorem v_ixL (xs : List D) (i : Int) : gIx (.lst xs) (.int i) = atI xs i := id rfl
@[simp] theorem v_ixT (xs : List D) (i : Int) : gIx (.tup xs) (.int i) = atI xs i := id rfl
@[simp] theorem v_revL (xs : List D) : gRev (.lst xs) = some (.lst xs.reverse) := id rfl
@[simp] theorem v_isi (n : String) (d : D) : gIsi n d = (tyN d).map fun t => .bl (isTy t n) := id rfl
@[simp] theorem v_isi2 (n m : String) (d : D) : gIsi2 n m d = (tyN d).map fun t => .bl (isTy t n || isTy t m) := id rfl
@[simp] theorem v_tyI (i : Int) : tyN (.int i) = some "int" := id rfl
@[simp] theorem v_tyB (i : Bool) : tyN (.bl i) = some "bool" := id rfl
@[simp] theorem v_tyS (i : Str) : tyN (.str i) = some "str" := id rfl
@[simp] theorem v_tyT (i : List D) : tyN (.tup i) = some "tuple" := id rfl
@[simp] theorem v_tyL (i : List D) : tyN (.lst i) = some "list" := id rfl
@[simp] theorem v_tyN : tyN .non = some "NoneType" := id rfl
@[simp] theorem v_isTy_NoneTypeNoneType : isTy "NoneType" "NoneType" = true := by decide
@[simp] theorem v_isTy_NoneTypebool : isTy "NoneType" "bool" = false := by decide
@[simp] theorem v_isTy_NoneTypeint : isTy "NoneType" "int" = false := by decide
@[simp] theorem v_isTy_NoneTypestr : isTy "NoneType" "str" = false := by decide
@[simp] theorem v_isTy_NoneTypetuple : isTy "NoneType" "tuple" = false := by decide
@[simp] theorem v_isTy_NoneTypelist : isTy "NoneType" "list" = false := by decide
@[simp] theorem v_isTy_boolNoneType : isTy "bool" "NoneType" = false := by decide
@[simp] theorem v_isTy_boolbool : isTy "bool" "bool" = true := by decide
@[simp] theorem v_isTy_boolint : isTy "bool" "int" = true := by decide
@[simp] theorem v_isTy_boolstr : isTy "bool" "str" = false := by decide
@[simp] theorem v_isTy_booltuple : isTy "bool" "tuple" = false := by decide
@[simp] theorem v_isTy_boollist : isTy "bool" "list" = false := by decide
@[simp] theorem v_isTy_intNoneType : isTy "int" "NoneType" = false := by decide
@[simp] theorem v_isTy_intbool : isTy "int" "bool" = false := by decide
@[simp] theorem v_isTy_intint : isTy "int" "int" = true := by decide
@[simp] theorem v_isTy_intstr : isTy "int" "str" = false := by decide
@[simp] theorem v_isTy_inttuple : isTy "int" "tuple" = false := by decide
@[simp] theorem v_isTy_intlist : isTy "int" "list" = false := by decide
@[simp] theorem v_isTy_strNoneType : isTy "str" "NoneType" = false := by decide
@[simp] theorem v_isTy_strbool : isTy "str" "bool" = false := by decide
@[simp] theorem v_isTy_strint : isTy "str" "int" = false := by decide
@[simp] theorem v_isTy_strstr : isTy "str" "str" = true := by decide
@[simp] theorem v_isTy_strtuple : isTy "str" "tuple" = false := by decide
@[simp] theorem v_isTy_strlist : isTy "str" "list" = false := by decide
@[simp] theorem v_isTy_tupleNoneType : isTy "tuple" "NoneType" = false := by decide
@[simp] theorem v_isTy_tuplebool : isTy "tuple" "bool" = false := by decide
@[simp] theorem v_isTy_tupleint : isTy "tuple" "int" = false := by decide
@[simp] theorem v_isTy_tuplestr : isTy "tuple" "str" = false := by decide
@[simp] theorem v_isTy_tupletuple : isTy "tuple" "tuple" = true := by decide
@[simp] theorem v_isTy_tuplelist : isTy "tuple" "list" = false := by decide
@[simp] theorem v_isTy_listNoneType : isTy "list" "NoneType" = false := by decide
@[simp] theorem v_isTy_listbool : isTy "list" "bool" = false := by decide
@[simp] theorem v_isTy_listint : isTy "list" "int" = false := by decide
@[simp] theorem v_isTy_liststr : isTy "list" "str" = false := by decide
@[simp] theorem v_isTy_listtuple : isTy "list" "tuple" = false := by decide
@[simp] theorem v_isTy_listlist : isTy "list" "list" = true := by decide
theorem small_line {n : Nat} (h : n ≤ 100000) : n ≤ sizeLine := Nat.le_trans h (by decide)
@[simp] theorem v_line0 : (0 : Nat) ≤ sizeLine := Nat.zero_le _
@[simp] theorem v_line1 : (1 : Nat) ≤ sizeLine := by decide
@[simp] theorem v_line2 : (2 : Nat) ≤ sizeLine := by decide
@[simp] theorem v_line3 : (3 : Nat) ≤ sizeLine := by decide
@[simp] theorem v_line4 : (4 : Nat) ≤ sizeLine := by decide
@[simp] theorem v_line5 : (5 : Nat) ≤ sizeLine := by decide
@[simp] theorem v_line6 : (6 : Nat) ≤ sizeLine := by decide
@[simp] theorem v_line7 : (7 : Nat) ≤ sizeLine := by decide
@[simp] theorem v_line8 : (8 : Nat) ≤ sizeLine := by decide
/-! ### reading a cell of the script -/
def cell (ns : List Int) (k : Nat) : Int := ns.getD k 0
end Fs

/-! F10: reckoning with lists of numbers, while loops, comprehensions. -/
namespace Fs
open PySem L2

abbrev iL (xs : List Int) : D := .lst (xs.map D.int)
theorem toPyL_ints : ∀ xs : List Int, toPyL (xs.map D.int) = some (xs.map PyData.int)
  | [] => by simp [toPyL]
  | x :: xs => by simp [toPyL, toPy, toPyL_ints xs]
theorem eqvAll_ints : ∀ xs ys : List Int, PyData.eqvAll (xs.map PyData.int) (ys.map PyData.int) = decide (xs = ys)
  | [], [] => by simp [PyData.eqvAll]
  | [], y :: ys => by simp [PyData.eqvAll]
  | x :: xs, [] => by simp [PyData.eqvAll]
  | x :: xs, y :: ys => by
    rw [List.map_cons, List.map_cons, PyData.eqvAll, eqvAll_ints xs ys, PyData.eqv]
    by_cases h : x = y <;> by_cases h2 : xs = ys <;> simp [h, h2]
theorem canLay_ints : ∀ xs : List Int, PyData.canLayAll0 (xs.map PyData.int) = true
  | [] => by simp [PyData.canLayAll0]
  | x :: xs => by simp [PyData.canLayAll0, PyData.canLay0, canLay_ints xs]
theorem depth_ints : ∀ xs : List Int, PyData.depthAll (xs.map PyData.int) = 0
  | [] => by simp [PyData.depthAll]
  | x :: xs => by simp [PyData.depthAll, PyData.depth, depth_ints xs]
theorem shaped_ints (xs : List Int) : SeqAt.shaped (.list (xs.map PyData.int)) = true := by
  simp [SeqAt.shaped, PyData.canLay0, PyData.depth, canLay_ints, depth_ints]
theorem eqO_L (xs ys : List Int) : eqO (.lst (xs.map D.int)) (.lst (ys.map D.int)) = some (decide (xs = ys)) := by
  have h : eqO (.lst (xs.map D.int)) (.lst (ys.map D.int)) = eqPy (.lst (xs.map D.int)) (.lst (ys.map D.int)) := by simp [eqO]
  rw [h]
  simp [eqPy, toPy, toPyL_ints, shaped_ints, PyData.eqv, eqvAll_ints]
@[simp] theorem v_eqL (xs ys : List Int) : gEq (.lst (xs.map D.int)) (.lst (ys.map D.int)) = some (.bl (decide (xs = ys))) := by simp [gEq, eqO_L]
@[simp] theorem v_neL (xs ys : List Int) : gNe (.lst (xs.map D.int)) (.lst (ys.map D.int)) = some (.bl (!decide (xs = ys))) := by simp [gNe, eqO_L]
@[simp] theorem v_eqL0 (xs : List Int) : gEq (.lst (xs.map D.int)) (.lst []) = some (.bl (decide (xs = []))) := v_eqL xs []
@[simp] theorem v_neL0 (xs : List Int) : gNe (.lst (xs.map D.int)) (.lst []) = some (.bl (!decide (xs = []))) := v_neL xs []
@[simp] theorem v_addL (xs ys : List D) : gAdd (.lst xs) (.lst ys) = if xs.length + ys.length ≤ sizeLine then some (.lst (xs ++ ys)) else none := rfl
/-- a loop over numbers whose turns go on -/
theorem forL {p : Pt} {body : S} {xs : List Int} {δ : Sl} (Inv : Nat → Sl → Prop) (h0 : Inv 0 δ)
    (hs : ∀ i (h : i < xs.length) δ, Inv i δ → ∃ δ1, bindP p (.int xs[i]) δ = some δ1 ∧ ∃ δ2, body δ1 = .nx δ2 ∧ Inv (i + 1) δ2) : ∃ δ', forD p body (xs.map D.int) δ = .nx δ' ∧ Inv xs.length δ' := by
  have z := forD_inv (p := p) (body := body) Inv (xs.map D.int) 0 δ h0 fun i d δ hd hi => by
    obtain ⟨h1, h2⟩ := List.getElem?_eq_some_iff.mp hd
    rw [List.length_map] at h1
    rw [List.getElem_map] at h2
    subst h2
    rw [Nat.zero_add] at hi ⊢
    exact hs i h1 δ hi
  rw [Nat.zero_add, List.length_map] at z
  exact z
/-- a while loop with a measure -/
theorem whileW {c : T} {body : S} (Inv : Sl → Prop) (μ : Sl → Nat)
    (hs : ∀ δ, Inv δ → c δ = .ok false ∨ (c δ = .ok true ∧ ∃ δ2, body δ = .nx δ2 ∧ Inv δ2 ∧ μ δ2 < μ δ)) : ∀ (n : Nat) (δ : Sl), Inv δ → μ δ < n → ∃ δ', whileD c body n δ = .nx δ' ∧ Inv δ' ∧ c δ' = .ok false
  | 0, δ, _, h => by omega
  | n + 1, δ, hi, h => by
    rcases hs δ hi with hc | ⟨hc, δ2, hb, hi2, hm⟩
    · exact ⟨δ, by simp only [whileD, hc], hi, hc⟩
    · obtain ⟨δ', e, h2⟩ := whileW Inv μ hs n δ2 hi2 (by omega)
      exact ⟨δ', by simp only [whileD, hc, hb, e], h2⟩
theorem lcD_map {p : Pt} {c : T} {e : E} {δ : Sl} (f : D → D) : ∀ (items : List D), (∀ d ∈ items, ∃ δ1, bindP p d δ = some δ1 ∧ c δ1 = .ok true ∧ e δ1 = .ok (f d)) → lcD p c e δ items = .ok (items.map f)
  | [], _ => rfl
  | d :: ds, h => by
    obtain ⟨δ1, e1, e2, e3⟩ := h d (by simp)
    have ih := lcD_map f ds fun x hx => h x (by simp [hx])
    simp only [lcD, e1, e2, e3, ih, List.map_cons]
theorem lcD_filter {p : Pt} {c : T} {e : E} {δ : Sl} (q : D → Bool) (f : D → D) : ∀ (items : List D), (∀ d ∈ items, ∃ δ1, bindP p d δ = some δ1 ∧ c δ1 = .ok (q d) ∧ e δ1 = .ok (f d)) → lcD p c e δ items = .ok ((items.filter q).map f)
  | [], _ => rfl
  | d :: ds, h => by
    obtain ⟨δ1, e1, e2, e3⟩ := h d (by simp)
    have ih := lcD_filter q f ds fun x hx => h x (by simp [hx])
    cases hq : q d
    · rw [hq] at e2
      simp only [lcD, e1, e2, ih, List.filter_cons, hq, Bool.false_eq_true, if_false]
    · rw [hq] at e2
      simp only [lcD, e1, e2, e3, ih, List.filter_cons, hq, if_true, List.map_cons]
end Fs

/-! F11: lists of natural numbers, parts of lists. -/
namespace Fs
open PySem L2
def nD (xs : List Nat) : List D := xs.map fun (x : Nat) => D.int (x : Int)
@[simp] theorem nD_length (xs : List Nat) : (nD xs).length = xs.length := by simp [nD]
@[simp] theorem nD_nil : nD [] = [] := rfl
theorem nD_cons (x : Nat) (xs : List Nat) : nD (x :: xs) = .int x :: nD xs := rfl
theorem nD_app (xs ys : List Nat) : nD (xs ++ ys) = nD xs ++ nD ys := by simp [nD]
theorem nD_snoc (xs : List Nat) (y : Nat) : nD (xs ++ [y]) = nD xs ++ [D.int y] := by simp [nD]
theorem nD_rev (xs : List Nat) : nD xs.reverse = (nD xs).reverse := by simp [nD]
theorem nD_eq (xs : List Nat) : nD xs = (xs.map fun (x : Nat) => (x : Int)).map D.int := by simp [nD]
theorem nD_at (xs : List Nat) {k : Nat} (h : k < xs.length) : atI (nD xs) (k : Int) = some (.int (xs[k] : Nat)) := by
  rw [atI_ofNat _ (by simpa using h)]
  simp [nD]
theorem nD_atD (xs : List Nat) {k : Nat} (h : k < xs.length) : atI (nD xs) (k : Int) = some (.int (xs.getD k 0 : Nat)) := by
  rw [nD_at xs h]
  simp [List.getD, h]
theorem natL_inj : ∀ {xs ys : List Nat}, (xs.map fun (x : Nat) => (x : Int)) = ys.map (fun (x : Nat) => (x : Int)) ↔ xs = ys
  | [], [] => by simp
  | [], y :: ys => by simp
  | x :: xs, [] => by simp
  | x :: xs, y :: ys => by
    simp only [List.map_cons, List.cons.injEq, natL_inj (xs := xs) (ys := ys)]
    constructor
    · rintro ⟨h1, h2⟩
      exact ⟨by omega, h2⟩
    · rintro ⟨h1, h2⟩
      exact ⟨by rw [h1], h2⟩
@[simp] theorem v_eqN (xs ys : List Nat) : gEq (.lst (nD xs)) (.lst (nD ys)) = some (.bl (decide (xs = ys))) := by
  rw [nD_eq, nD_eq, v_eqL]
  simp only [natL_inj]
@[simp] theorem v_neN (xs ys : List Nat) : gNe (.lst (nD xs)) (.lst (nD ys)) = some (.bl (!decide (xs = ys))) := by
  rw [nD_eq, nD_eq, v_neL]
  simp only [natL_inj]
@[simp] theorem v_eqN0 (xs : List Nat) : gEq (.lst (nD xs)) (.lst []) = some (.bl (decide (xs = []))) := v_eqN xs []
@[simp] theorem v_neN0 (xs : List Nat) : gNe (.lst (nD xs)) (.lst []) = some (.bl (!decide (xs = []))) := v_neN xs []
@[simp] theorem v_eqB (a b : Bool) : gEq (.bl a) (.bl b) = some (.bl (decide (a = b))) := id rfl
@[simp] theorem v_neB (a b : Bool) : gNe (.bl a) (.bl b) = some (.bl (!decide (a = b))) := id rfl
@[simp] theorem v_eq00 : gEq (.lst []) (.lst []) = some (.bl true) := (v_eqN [] []).trans (by simp)
@[simp] theorem v_ne00 : gNe (.lst []) (.lst []) = some (.bl false) := (v_neN [] []).trans (by simp)
@[simp] theorem v_gListL (xs : List D) : gList [.lst xs] = some (.lst xs) := id rfl
@[simp] theorem v_gListT (xs : List D) : gList [.tup xs] = some (.lst xs) := id rfl
@[simp] theorem v_gTupleL (xs : List D) : gTuple [.lst xs] = some (.tup xs) := id rfl
@[simp] theorem v_sDrop (f : E) (δ : Sl) : sDrop f δ = sBind (f δ) δ fun _ => .nx δ := id rfl
@[simp] theorem v_gIntI (i : Int) : gInt [.int i] = some (.int i) := id rfl
@[simp] theorem v_gIntB (b : Bool) : gInt [.bl b] = some (.int (if b then 1 else 0)) := id rfl
@[simp] theorem v_gslL (xs : List D) (lo hi : Option Int) : gSl (.lst xs) lo hi = some (.lst (cutD xs lo hi)) := id rfl
/-- a part of any list -/
def cutL {α : Type} (xs : List α) (lo hi : Option Int) : List α := (xs.drop (HT.sIx xs.length 0 lo)).take (HT.sIx xs.length xs.length hi - HT.sIx xs.length 0 lo)
theorem cutD_map {α : Type} (f : α → D) (xs : List α) (lo hi : Option Int) : cutD (xs.map f) lo hi = (cutL xs lo hi).map f := by
  simp [cutD, cutL, List.map_take, List.map_drop]
@[simp] theorem cutD_ints (xs : List Int) (lo hi : Option Int) : cutD (xs.map D.int) lo hi = (cutL xs lo hi).map D.int := cutD_map _ _ _ _
@[simp] theorem cutD_nD (xs : List Nat) (lo hi : Option Int) : cutD (nD xs) lo hi = nD (cutL xs lo hi) := cutD_map _ _ _ _
theorem cutL_sub {α : Type} {xs : List α} {lo hi : Option Int} {x : α} (h : x ∈ cutL xs lo hi) : x ∈ xs := List.mem_of_mem_drop (List.mem_of_mem_take h)
theorem cutL_len {α : Type} (xs : List α) (lo hi : Option Int) : (cutL xs lo hi).length ≤ xs.length := by
  simp only [cutL, List.length_take, List.length_drop]
  omega
theorem cutL_nn {α : Type} (xs : List α) (a b : Nat) : cutL xs (some (a : Int)) (some (b : Int)) = (xs.drop a).take (b - a) := by
  simp only [cutL, HT.sIx_nat]
  by_cases h : a ≤ xs.length
  · rw [Nat.min_eq_left h]
    by_cases h2 : b ≤ xs.length
    · rw [Nat.min_eq_left h2]
    · rw [Nat.min_eq_right (by omega), List.take_of_length_le (by simp), List.take_of_length_le (by simp; omega)]
  · have e : min a xs.length = xs.length := by omega
    rw [e, List.drop_of_length_le (Nat.le_refl _), List.drop_of_length_le (by omega)]
    simp
theorem cutL_lo {α : Type} (xs : List α) (a : Nat) : cutL xs (some (a : Int)) none = xs.drop a := by
  simp only [cutL, HT.sIx_nat, HT.sIx_none]
  by_cases h : a ≤ xs.length
  · rw [Nat.min_eq_left h, List.take_of_length_le (by simp)]
  · have e : min a xs.length = xs.length := by omega
    rw [e, List.drop_of_length_le (Nat.le_refl _), List.drop_of_length_le (by omega)]
    simp
theorem cutL_hi {α : Type} (xs : List α) (b : Nat) : cutL xs none (some (b : Int)) = xs.take b := by
  simp only [cutL, HT.sIx_nat, HT.sIx_none, List.drop_zero, Nat.sub_zero]
  by_cases h : b ≤ xs.length
  · rw [Nat.min_eq_left h]
  · rw [Nat.min_eq_right (by omega), List.take_of_length_le (by simp), List.take_of_length_le (by omega)]
end Fs

/-! F12: zip of two lists, of two tuples. -/
namespace Fs
open PySem L2
def zipD (xs ys : List D) : List D := List.zipWith (fun x y => .tup [x, y]) xs ys
theorem zipD_get {xs ys : List D} {i : Nat} (hi : i < (zipD xs ys).length) : ∃ x y, xs[i]? = some x ∧ ys[i]? = some y ∧ (zipD xs ys)[i]? = some (.tup [x, y]) := by
  have h1 : i < xs.length ∧ i < ys.length := by
    simp only [zipD, List.length_zipWith] at hi
    omega
  exact ⟨xs[i], ys[i], List.getElem?_eq_getElem h1.1, List.getElem?_eq_getElem h1.2, by simp [zipD, List.getElem?_zipWith, h1.1, h1.2]⟩
section
variable {K : PySem.W.Frag} {G : Hp} {a b : Addr} {vs us : List V} {ds es : List D}
theorem itOk_zip (h : SqL K G a vs) (h2 : SqL K G b us) (r : RepL K G ds vs) (r2 : RepL K G es us) : ItOk K (Itz K a b) G (zipD ds es) where
  go := fun i H s hi => by
    obtain ⟨x, y, e1, e2, _⟩ := zipD_get hi
    obtain ⟨v, e3, _⟩ := r.get e1
    obtain ⟨u, e4, _⟩ := r2.get e2
    exact ⟨vs, us, v, u, s.seq h, s.seq h2, e3, e4⟩
  stop := fun i H s hi => by
    have := hi
    simp only [zipD, List.length_zipWith] at this
    have hl := r.length
    have hl2 := r2.length
    exact ⟨vs, us, s.seq h, s.seq h2, by omega⟩
  yld := fun i H x H' Gc s1 s2 hi y => by
    obtain ⟨dx, dy, e1, e2, e5⟩ := zipD_get hi
    obtain ⟨v, e3, rv⟩ := r.get e1
    obtain ⟨u, e4, ru⟩ := r2.get e2
    obtain ⟨T, x0, y0, rfl, hT, rfl, y1, y2⟩ := y
    have z := y1 vs ((s1.trans s2).seq h)
    rw [e3] at z
    cases z
    have z2 := y2 us ((s1.trans s2).seq h2)
    rw [e4] at z2
    cases z2
    exact ⟨.tup [dx, dy], upd Gc T (.tup [v, u]), e5, Stp.new s2 hT _, .tup (SqT.of upd_same) (.cons ((rv.mono s1).mono (same_new (s2.free hT) _)) (.cons ((ru.mono s1).mono (same_new (s2.free hT) _)) .nil))⟩
theorem itOk_zipT (h : SqT K G a vs) (h2 : SqT K G b us) (r : RepL K G ds vs) (r2 : RepL K G es us) : ItOk K (RZ.ItzT K a b) G (zipD ds es) where
  go := fun i H s hi => by
    obtain ⟨x, y, e1, e2, _⟩ := zipD_get hi
    obtain ⟨v, e3, _⟩ := r.get e1
    obtain ⟨u, e4, _⟩ := r2.get e2
    exact ⟨vs, us, v, u, sqt_mono s h, sqt_mono s h2, e3, e4⟩
  stop := fun i H s hi => by
    have := hi
    simp only [zipD, List.length_zipWith] at this
    have hl := r.length
    have hl2 := r2.length
    exact ⟨vs, us, sqt_mono s h, sqt_mono s h2, by omega⟩
  yld := fun i H x H' Gc s1 s2 hi y => by
    obtain ⟨dx, dy, e1, e2, e5⟩ := zipD_get hi
    obtain ⟨v, e3, rv⟩ := r.get e1
    obtain ⟨u, e4, ru⟩ := r2.get e2
    obtain ⟨T, x0, y0, rfl, hT, rfl, y1, y2⟩ := y
    have z := y1 vs (sqt_mono (s1.trans s2) h)
    rw [e3] at z
    cases z
    have z2 := y2 us (sqt_mono (s1.trans s2) h2)
    rw [e4] at z2
    cases z2
    exact ⟨.tup [dx, dy], upd Gc T (.tup [v, u]), e5, Stp.new s2 hT _, .tup (SqT.of upd_same) (.cons ((rv.mono s1).mono (same_new (s2.free hT) _)) (.cons ((ru.mono s1).mono (same_new (s2.free hT) _)) .nil))⟩
end
def iZipD (a : As) : As := fun δ => (a δ).bind fun ds => match ds with
  | [.lst xs, .lst ys] => .ok (zipD xs ys)
  | [.tup xs, .tup ys] => .ok (zipD xs ys)
  | _ => .stk
theorem si_zip {X : Cx} {C : Cc} {e e2 : Expr} {f : As} {p pos tpos : Pos} {elts : List Expr} {kk : Nat} (hg : Gl X "zip") (hm : X.mg "zip" = none) (ha : SA X C [e, e2] f)
    (hs : starEach [e, e2] X.env = (false, eval e X.env) :: starEach [e2] X.env := by rfl) (hpl : (backTo pos (starEach [e2] X.env)).any (·.1) = false := by rfl) :
    SI X C (.Tuple elts kk tpos) (.Call (.Name "zip" p) [e, e2] [] pos) (iZipD f) :=
  pi_weak (RZ.pi_zipA hg hm ha hs hpl) fun σ H R ⟨δ, G, re, h⟩ => ⟨δ, G, re, onA_mono (onA_AI h) fun ds vs G1 H1 s1 r1 h1 => by
    split at h1
    · cases r1 with
      | cons r2 r3 =>
        cases r3 with
        | cons r4 r5 =>
          cases r5
          cases r2 with
          | @lst a us _ pp q =>
            cases r4 with
            | @lst b us2 _ pp2 q2 => exact ⟨a, b, us, us2, rfl, .inl ⟨s1.sub.seq pp, s1.sub.seq pp2, h1 _ G1 H1 (Stp.refl s1.sub) (itOk_zip pp pp2 q q2)⟩⟩
    · cases r1 with
      | cons r2 r3 =>
        cases r3 with
        | cons r4 r5 =>
          cases r5
          cases r2 with
          | @tup a us _ pp q =>
            cases r4 with
            | @tup b us2 _ pp2 q2 => exact ⟨a, b, us, us2, rfl, .inr ⟨sqt_mono s1.sub pp, sqt_mono s1.sub pp2, h1 _ G1 H1 (Stp.refl s1.sub) (itOk_zipT pp pp2 q q2)⟩⟩
    · exact h1.elim⟩
@[simp] theorem v_iZipD (a : As) (δ : Sl) : iZipD a δ = (a δ).bind fun ds => match ds with | [.lst xs, .lst ys] => .ok (zipD xs ys) | [.tup xs, .tup ys] => .ok (zipD xs ys) | _ => .stk := id rfl
end Fs

/-! F13: what is never reached; own lists that are looked at; items stored; raise and try. -/
namespace Fs
open PySem L2
section
variable {X : Cx} {C : Cc} {pos : Pos}
def eStk : E := fun _ => .stk
theorem se_never {e : Expr} : SE X C e eStk := ⟨fun pins s σ H Q I ⟨δ, G, re, h⟩ => h.elim⟩

/-! ### an own list that is looked at, and does not leave -/
def delH (G : Hp) (p : Addr) : Hp := fun a => if a = p then none else G a
mutual
def flat : D → Bool
  | .lst _ => false
  | .tup xs => flats xs
  | .dct _ _ => false
  | _ => true
def flats : List D → Bool
  | [] => true
  | d :: ds => flat d && flats ds
end
theorem rd_del {G : Hp} {a p : Addr} {u : HO} (h : Rd G a u) (hp : ∀ o, G p = some o → ∃ vs, o = .lst vs) (hu : ∀ vs, u ≠ .lst vs) : Rd (delH G p) a u := by
  have key : ∀ o, G a = some o → (∀ vs, o ≠ .lst vs) → delH G p a = some o := fun o ho hn => by
    unfold delH
    rw [if_neg (fun z => by
      subst z
      obtain ⟨vs, e⟩ := hp o ho
      exact hn vs e)]
    exact ho
  rcases h with h | ⟨o, h⟩
  · exact .inl (key _ h hu)
  · exact .inr ⟨o, key _ h fun vs z => nomatch z⟩
theorem sqt_del {K : PySem.W.Frag} {G : Hp} {a p : Addr} {xs : List V} (h : SqT K G a xs) (hp : ∀ o, G p = some o → ∃ vs, o = .lst vs) : SqT K (delH G p) a xs := by
  rcases h with h | h
  · exact .inl (rd_del h hp fun vs z => nomatch z)
  · exact .inr h
mutual
theorem Rep.del {K : PySem.W.Frag} {G : Hp} {p : Addr} (hp : ∀ o, G p = some o → ∃ vs, o = .lst vs) : ∀ {d : D} {v : V}, flat d = true → Rep K G d v → Rep K (delH G p) d v
  | _, _, _, .non => .non
  | _, _, _, .bl b => .bl b
  | _, _, _, .int i => .int i
  | _, _, _, .str x => .str x
  | _, _, _, .fn a => .fn a
  | _, _, hf, .tup h r => .tup (sqt_del h hp) (RepL.del hp (by simpa [flat] using hf) r)
  | _, _, hf, .lst h r => by simp [flat] at hf
  | _, _, hf, .dct h l r => by simp [flat] at hf
theorem RepL.del {K : PySem.W.Frag} {G : Hp} {p : Addr} (hp : ∀ o, G p = some o → ∃ vs, o = .lst vs) : ∀ {ds : List D} {vs : List V}, flats ds = true → RepL K G ds vs → RepL K (delH G p) ds vs
  | _, _, _, .nil => .nil
  | _, _, hf, .cons h r => by
    simp only [flats, Bool.and_eq_true] at hf
    exact .cons (Rep.del hp hf.1 h) (RepL.del hp hf.2 r)
end
theorem Stp.del {G H G' H' : Hp} {p : Addr} {u : HO} (gp : G p = none) (t : Stp (upd G p u) H G' H') : Stp G H (delH G' p) H' := by
  refine ⟨fun b o hb => ?_, t.h, fun b o hb => ?_, fun b hb => ?_⟩
  · have hne : b ≠ p := ne_of_none hb gp
    unfold delH
    rw [if_neg hne]
    exact t.g b o (by rw [upd_ne hne]; exact hb)
  · unfold delH at hb
    split at hb
    · exact nomatch hb
    · exact t.sub b o hb
  · unfold delH at hb
    split at hb
    · exact absurd rfl hb
    · rename_i hne
      rcases t.nw b hb with h | h
      · rw [upd_ne hne] at h
        exact .inl h
      · exact .inr h
def bare : R D → R D
  | .ok d => if flat d = true then .ok d else .stk
  | .exc e => if e.fs.isEmpty = true then .exc e else .stk
  | .stk => .stk
def bareT : R Bool → R Bool
  | .ok d => .ok d
  | .exc e => if e.fs.isEmpty = true then .exc e else .stk
  | .stk => .stk
def eBor (i : Nat) (f : E) : E := fun δ => match δ[i]? with
  | some (.own xs) => bare (f (δ.set i (.v (.lst xs))))
  | some (.bor xs) => bare (f (δ.set i (.v (.lst xs))))
  | _ => f δ
def tBr (i : Nat) (f : T) : T := fun δ => match δ[i]? with
  | some (.own xs) => bareT (f (δ.set i (.v (.lst xs))))
  | some (.bor xs) => bareT (f (δ.set i (.v (.lst xs))))
  | _ => f δ
theorem lst_of_upd {G H G' H' : Hp} {p : Addr} {vs : List V} (t : Stp (upd G p (.lst vs)) H G' H') : ∀ o, G' p = some o → ∃ vs, o = .lst vs := fun o ho => by
  have h1 := t.g p _ upd_same
  rw [h1] at ho
  exact ⟨vs, (Option.some.inj ho).symm⟩
theorem onX_bor {K : PySem.W.Frag} {σ : L2.St} {G H : Hp} {p : Addr} {vs : List V} {e : Ex} (gp : G p = none) (he : e.fs.isEmpty = true) (h : onX K C σ G H e) : onX K C σ (upd G p (.lst vs)) H e := fun cls dd G' H' t rx => by
  refine h cls dd (delH G' p) H' (t.del gp) ⟨rx.1, ?_⟩
  have he' : e.fs = [] := List.isEmpty_iff.mp he
  rcases rx.2 with ⟨h1, h2⟩ | ⟨hne, _⟩
  · exact .inl ⟨h1, h2⟩
  · exact absurd he' hne
theorem lift_bor {K : PySem.W.Frag} {i : Nat} {f : E} {σ : L2.St} {H : Hp} {Q : VK} (h : liftE K C (eBor i f) σ H Q) : liftE K C f σ H Q := by
  obtain ⟨δ, G, re, h⟩ := h
  unfold eBor at h
  cases q : δ[i]? with
  | none => rw [q] at h; exact ⟨δ, G, re, h⟩
  | some sl =>
    rw [q] at h
    cases sl with
    | un => exact ⟨δ, G, re, h⟩
    | v d => exact ⟨δ, G, re, h⟩
    | own xs =>
      obtain ⟨p, vs, _, _, gp, _, re2⟩ := re.frz i q
      refine ⟨_, _, re2, ?_⟩
      simp only at h
      cases ef : f (δ.set i (.v (.lst xs))) with
      | stk => rw [ef] at h; exact h.elim
      | ok d =>
        rw [ef] at h
        simp only [bare] at h
        split at h
        · rename_i hf
          exact fun v G' H' t r => h v (delH G' p) H' (t.del gp) (r.del (lst_of_upd t) hf)
        · exact h.elim
      | exc e =>
        rw [ef] at h
        simp only [bare] at h
        split at h
        · rename_i hf
          exact onX_bor gp hf h
        · exact h.elim
    | bor xs =>
      obtain ⟨p, vs, _, _, gp, _, re2⟩ := re.frzB i q
      refine ⟨_, _, re2, ?_⟩
      simp only at h
      cases ef : f (δ.set i (.v (.lst xs))) with
      | stk => rw [ef] at h; exact h.elim
      | ok d =>
        rw [ef] at h
        simp only [bare] at h
        split at h
        · rename_i hf
          exact fun v G' H' t r => h v (delH G' p) H' (t.del gp) (r.del (lst_of_upd t) hf)
        · exact h.elim
      | exc e =>
        rw [ef] at h
        simp only [bare] at h
        split at h
        · rename_i hf
          exact onX_bor gp hf h
        · exact h.elim
theorem se_bor (i : Nat) {e : Expr} {f : E} (h : SE X C e f) : SE X C e (eBor i f) := pe_weak h fun σ H Q z => lift_bor z
theorem lift_borT {K : PySem.W.Frag} {i : Nat} {f : T} {σ : L2.St} {H : Hp} {Q : Bool → Hp → Prop} (h : liftT K C (tBr i f) σ H Q) : liftT K C f σ H Q := by
  obtain ⟨δ, G, re, h⟩ := h
  unfold tBr at h
  cases q : δ[i]? with
  | none => rw [q] at h; exact ⟨δ, G, re, h⟩
  | some sl =>
    rw [q] at h
    cases sl with
    | un => exact ⟨δ, G, re, h⟩
    | v d => exact ⟨δ, G, re, h⟩
    | own xs =>
      obtain ⟨p, vs, _, _, gp, _, re2⟩ := re.frz i q
      refine ⟨_, _, re2, ?_⟩
      simp only at h
      cases ef : f (δ.set i (.v (.lst xs))) with
      | stk => rw [ef] at h; exact h.elim
      | ok d =>
        rw [ef] at h
        exact fun G' H' t => h (delH G' p) H' (t.del gp)
      | exc e =>
        rw [ef] at h
        simp only [bareT] at h
        split at h
        · rename_i hf
          exact onX_bor gp hf h
        · exact h.elim
    | bor xs =>
      obtain ⟨p, vs, _, _, gp, _, re2⟩ := re.frzB i q
      refine ⟨_, _, re2, ?_⟩
      simp only at h
      cases ef : f (δ.set i (.v (.lst xs))) with
      | stk => rw [ef] at h; exact h.elim
      | ok d =>
        rw [ef] at h
        exact fun G' H' t => h (delH G' p) H' (t.del gp)
      | exc e =>
        rw [ef] at h
        simp only [bareT] at h
        split at h
        · rename_i hf
          exact onX_bor gp hf h
        · exact h.elim
theorem st_bor (i : Nat) {e : Expr} {f : T} (h : ST X C e f) : ST X C e (tBr i f) := pt_weak h fun σ H Q z => lift_borT z

/-! ### x[i] = e of an own list -/
theorem ss_setIx (i : Nat) {x : Str} {p1 p2 : Pos} {a e : Expr} {fa fe : E} (hi : SE X C a fa) (he : SE X C e fe) (hN : X.N[i]? = some x := by rfl) (hv : Vis X.env.scope x := by first | exact Or.inl rfl | exact Or.inr (Or.inl rfl) | exact Or.inr (Or.inr rfl)) (hd : (x == ("__debug__" : Str)) = false := by decide)
    (hcd : (x == ("__classdict__" : Str)) = false := by decide)
    (ha : ∀ v, assign (.Subscript (.Name x p1) a p2) X.env v = (do
      let ov ← holding [v] (eval (.Name x p1) X.env)
      let iv ← holding [v, ov] (eval a X.env)
      standAt p2
      holding [v, ov, iv] (setItem ov iv v)
      release [v, ov, iv] []) := by intro _; rfl)
    (hs : swapsWithSole [.Subscript (.Name x p1) a p2] e pos.line X.env = pure false := by rfl) (hw : swappedStores [.Subscript (.Name x p1) a p2] e X.env = pure none := by rfl)
    (h1 : (assignEach [.Subscript (.Name x p1) a p2] X.env).map (·.2) = [assign (.Subscript (.Name x p1) a p2) X.env] := by rfl) :
    SS X C (.Assign [.Subscript (.Name x p1) a p2] e pos) (sSetIx i fa fe) :=
  ps_weak (ps_asg he (pg_sub (pe_var hN hv hd hcd) hi set_list ha) hs hw h1) fun Dn σ H ⟨δ, G, re, h⟩ => by
    unfold sSetIx at h
    refine ⟨δ, G, re, onR_mono (onS_R re h) fun d v G1 H1 s1 r1 h1 => ?_⟩
    cases q : δ[i]? with
    | none => rw [q] at h1; exact h1.elim
    | some sl =>
      rw [q] at h1
      cases sl with
      | un => exact h1.elim
      | v d => exact h1.elim
      | bor xs => exact h1.elim
      | own xs =>
        have re1 := re.step s1
        obtain ⟨p, vs, e0, h0, g0, hh, r0⟩ := re1.ownd q
        refine ⟨.ref p, e0, δ, G1, re1, onR_mono (onS_R re1 h1) fun z u G2 H2 s2 r2 h2 => ?_⟩
        cases r2 with
        | int k =>
          simp only at h2
          cases qi : ixN xs.length k with
          | none => rw [qi] at h2; exact h2.elim
          | some j =>
            rw [qi] at h2
            have hl := r0.length
            exact ⟨p, vs, k, j, rfl, rfl, s2.h _ _ hh, by rw [← hl]; exact qi, h2 σ G2 _ ((re1.step s2).mutO i q e0 ((r0.mono s2.g).set j (r1.mono s2.g))) (Same.refl _)⟩
        | non => exact h2.elim
        | bl b => exact h2.elim
        | str x => exact h2.elim
        | fn x => exact h2.elim
        | dct p l q => exact h2.elim
        | tup p q => exact h2.elim
        | lst p q => exact h2.elim
end
end Fs

/-! F14: raise of an own class, try .. except. -/
namespace Fs
open PySem L2
/-- what is known of an own class of the program, over ValueError, without own __init__ -/
structure XC (K : PySem.W.Frag) (mg : Str → Option Value) (ct : String → Addr) (cn : String) : Prop where
  g : mg (Str.ofString cn) = some (.ref (ct cn))
  k : PySem.W.keepIn K (.ref (ct cn)) = true
  q : PySem.W.excIn K (ct cn) [.type "ValueError", .type "Exception", .type "BaseException", .type "object"] "ValueError.__new__" = true
  b : PySem.W.subIn K (.ref (ct cn)) (.type "BaseException") = some true
  t : PySem.W.typeIn K (.ref (ct cn)) = some (.type "type")
  d : PySem.W.hasDictIn K (ct cn) = true
section
variable {X : Cx} {C : Cc} {pos : Pos}
def sRaise (cn : String) : S := fun δ => .exc ⟨cn, []⟩ δ
theorem ss_raise {cn : String} {m : Str} {j : Nat} {p p2 p3 : Pos} (hc : X.calm = true) (tk : Takes X C.W) (c : XC X.K X.mg C.ct cn) (hg : Gl X (Str.ofString cn)) (hdb : ((Str.ofString cn) == ("__debug__" : Str)) = false := by decide) :
    SS X C (.Raise (some (.Call (.Name (Str.ofString cn) p) [.Constant (.str m) j p2] [] p3)) none pos) (sRaise cn) :=
  ps_weak (ps_raise hc tk (pmk_own PySem.F.excBase_ValueError c.q c.g c.k (raises_own c.b c.t) hg hdb)) fun Dn σ H ⟨δ, G, re, h⟩ => h _ none σ G H re (Same.refl _) ⟨rfl, .inl ⟨rfl, rfl⟩⟩
/-- which classes the clause takes: by pairs -/
def XT (K : PySem.W.Frag) (ct : String → Addr) (c : Addr) (t : String → Option Bool) : Prop := ∀ s b, t s = some b → PySem.W.exmOne K (.ref (ct s)) (.ref c) = some b
theorem xt_sub {K : PySem.W.Frag} {ct : String → Addr} {c : Addr} (hb : PySem.W.subIn K (.ref c) (.type "BaseException") = some true) (hd : PySem.W.hasDictIn K c = true) (ht : PySem.W.typeIn K (.ref c) = some (.type "type")) {s : String} {b : Bool} (h : PySem.W.subIn K (.ref (ct s)) (.ref c) = some b) :
    PySem.W.exmOne K (.ref (ct s)) (.ref c) = some b := PySem.W.exm_ref hb hd ht h
def sTry (t : String → Option Bool) (fb fs : S) : S := fun δ => match fb δ with
  | .exc e δ' => match t e.cls with
    | some true => (match fs δ' with
      | .exc _ _ => .stk
      | r => r)
    | some false => .exc e δ'
    | none => .stk
  | r => r
theorem RE.wish2 {K : PySem.W.Frag} {G0 H0 : Hp} {ct : String → Addr} {W W' : WX} {bp : Option Addr} {σ : L2.St} {δ : Sl} {G H : Hp} (r : RE K ⟨G0, H0, ct, W, bp⟩ σ δ G H) : RE K ⟨G0, H0, ct, W', bp⟩ σ δ G H := ⟨r.st, r.len, r.sl, r.sep⟩
theorem onS_wish {K : PySem.W.Frag} {C : Cc} {W : WX} {G : Hp} {r : RS} {Dn : Ends} (h : onS K C G r Dn) (hx : ∀ e δ, r ≠ .exc e δ) : onS K { C with W := W } G r Dn := by
  cases r with
  | nx δ => exact fun σ' G' H' re z => h σ' G' H' re.wish2 z
  | bk δ => exact fun σ' G' H' re z => h σ' G' H' re.wish2 z
  | ct δ => exact fun σ' G' H' re z => h σ' G' H' re.wish2 z
  | rt d => exact h
  | exc e δ => exact absurd rfl (hx e δ)
  | stk => exact h
theorem ss_try_only {x : Str} {c : Addr} {t : String → Option Bool} {body suite : List Stmt} {b₀ : Stmt} {np pos' : Pos} {fb fs : S} (hs : X.stack = X.env :: X.outer) (hf : X.env.frame = some X.env.locals) (hc : Names X x (.ref c)) (tk : Takes X C.W) (ht : XT X.K C.ct c t)
    (hb : ∀ (W : WX) (pn : List (Addr × Obj)) (xe : Value → Shared → Prop), Takes (X.tr pn xe) W → PassesOwn (model X.prog X.w) X.A X.env xe → SSs (X.tr pn xe) { C with W := W } body fb)
    (hsu : ∀ (a : Addr) (oe : Obj) (cls : Value) (d : Option Addr) (pn : List (Addr × Obj)), Zc cls d oe → (∃ vs, oe.data = .fields vs) → SSs (X.suite a ((a, oe) :: pn)) C.nox (b₀ :: suite) fs) :
    SS X C (.Try body [.ExceptHandler (some (.Name x np)) none (b₀ :: suite) pos'] [] [] pos) (sTry t fb fs) :=
  ps_weak (ps_try_only (tb := fun W => liftS X.K { C with W := W } fb) (ts := fun _ _ _ => liftS X.K C.nox fs) hs hf hc tk hb hsu) fun Dn σ H ⟨δ, G, re, h⟩ => by
    refine ⟨δ, G, re.wish2, ?_⟩
    unfold sTry at h
    cases e : fb δ with
    | nx δ' => rw [e] at h; exact fun σ' G' H' re z => h σ' G' H' re.wish2 z
    | bk δ' => rw [e] at h; exact fun σ' G' H' re z => h σ' G' H' re.wish2 z
    | ct δ' => rw [e] at h; exact fun σ' G' H' re z => h σ' G' H' re.wish2 z
    | rt d => rw [e] at h; exact h
    | stk => rw [e] at h; exact h.elim
    | exc ex δ' =>
      rw [e] at h
      simp only at h
      intro cls dd σ' G' H' re' sg rx
      cases q : t ex.cls with
      | none => rw [q] at h; exact h.elim
      | some b =>
        rw [q] at h
        refine ⟨b, by rw [rx.1]; exact ht _ _ q, fun hb => ?_, fun hb => ?_⟩
        · subst hb
          intro a _
          refine ⟨δ', G', re'.wish2, ?_⟩
          have h2 : ∀ r : RS, fs δ' = r → onS X.K C G (match r with | .exc _ _ => .stk | r => r) Dn → onS X.K C.nox G' r Dn := by
            intro r _ h2
            cases r with
            | exc e2 δ2 => exact h2.elim
            | nx δ2 => exact onS_wish (onS_same sg h2) fun _ _ z => nomatch z
            | bk δ2 => exact onS_wish (onS_same sg h2) fun _ _ z => nomatch z
            | ct δ2 => exact onS_wish (onS_same sg h2) fun _ _ z => nomatch z
            | rt d => exact onS_wish (onS_same sg h2) fun _ _ z => nomatch z
            | stk => exact h2.elim
          exact h2 _ rfl h
        · subst hb
          exact h cls dd σ' G' H' re'.wish2 sg rx
end
@[simp] theorem v_sTry (t : String → Option Bool) (fb fs : S) (δ : Sl) : sTry t fb fs δ = (match fb δ with
  | .exc e δ' => match t e.cls with
    | some true => (match fs δ' with
      | .exc _ _ => .stk
      | r => r)
    | some false => .exc e δ'
    | none => .stk
  | r => r) := id rfl
@[simp] theorem v_sRaise (cn : String) (δ : Sl) : sRaise cn δ = .exc ⟨cn, []⟩ δ := id rfl
@[simp] theorem v_sSetIx (i : Nat) (fi f : E) (δ : Sl) : sSetIx i fi f δ = sBind (f δ) δ fun d => match δ[i]? with
  | some (.own xs) => sBind (fi δ) δ fun z => match z with
    | .int k => match ixN xs.length k with
      | some j => .nx (δ.set i (.own (xs.set j d)))
      | none => .stk
    | _ => .stk
  | _ => .stk := id rfl
@[simp] theorem v_eBor (i : Nat) (f : E) (δ : Sl) : eBor i f δ = (match δ[i]? with
  | some (.own xs) => bare (f (δ.set i (.v (.lst xs))))
  | some (.bor xs) => bare (f (δ.set i (.v (.lst xs))))
  | _ => f δ) := id rfl
@[simp] theorem v_tBr (i : Nat) (f : T) (δ : Sl) : tBr i f δ = (match δ[i]? with
  | some (.own xs) => bareT (f (δ.set i (.v (.lst xs))))
  | some (.bor xs) => bareT (f (δ.set i (.v (.lst xs))))
  | _ => f δ) := id rfl
@[simp] theorem v_bare_ok (d : D) : bare (.ok d) = if flat d = true then .ok d else .stk := id rfl
@[simp] theorem v_bare_exc (e : Ex) : bare (.exc e) = if e.fs.isEmpty = true then .exc e else .stk := id rfl
@[simp] theorem v_bareT_ok (d : Bool) : bareT (.ok d) = .ok d := id rfl
@[simp] theorem v_flat_int (i : Int) : flat (.int i) = true := by simp [flat]
@[simp] theorem v_flat_bl (i : Bool) : flat (.bl i) = true := by simp [flat]
@[simp] theorem v_flat_str (i : Str) : flat (.str i) = true := by simp [flat]
@[simp] theorem v_flat_non : flat .non = true := by simp [flat]
@[simp] theorem v_flat_tup (xs : List D) : flat (.tup xs) = flats xs := by simp [flat]
@[simp] theorem v_flats_nil : flats [] = true := by simp [flats]
@[simp] theorem v_flats_cons (d : D) (ds : List D) : flats (d :: ds) = (flat d && flats ds) := by simp [flats]
@[simp] theorem v_divmod (i j : Int) : gDivmod [.int i, .int j] = if 0 < j ∧ Builtin.divisionGoesByPylong i j = false then some (.tup [.int (i / j), .int (i % j)]) else none := id rfl
end Fs
namespace Fs
open PySem L2
/-- no promise where it raises -/
def hush (F : List D → R D) : List D → R D := fun ds => match F ds with
  | .exc _ => .stk
  | r => r
theorem hush_ok {F : List D → R D} {ds : List D} {d : D} (h : F ds = .ok d) : hush F ds = .ok d := by
  unfold hush
  rw [h]
theorem spD_hush {K : PySem.W.Frag} {ct ct' : String → Addr} {n : Nat} {F : List D → R D} {vs : List V} {H : Hp} {Q : VK} {E : XK} (h : spD K ct' n (hush F) vs H Q E) : spD K ct n F vs H Q E := by
  obtain ⟨G, ds, l, s, r, h⟩ := h
  refine ⟨G, ds, l, s, r, ?_⟩
  unfold hush at h
  cases e : F ds with
  | ok d => rw [e] at h; exact h
  | exc x => rw [e] at h; exact h.elim
  | stk => rw [e] at h; exact h.elim
theorem fn_hush {P : Program} {w : World} {K : PySem.W.Frag} {mg : Str → Option Value} {base : Heap} {CX : CXT} {k n : Nat} {f : Addr} {fd : FuncData} {ps : List Str} {ct ct' : String → Addr} {F : List D → R D} (h : FnOk P w K mg base CX k f fd ps (spD K ct n F)) :
    FnOk P w K mg base CX k f fd ps (spD K ct' n (hush F)) :=
  ⟨fun vs H Q E z => h.len vs H Q E (spD_hush z), fun A outer s H args us vs Q E a b c d z => h.run A outer s H args us vs Q E a b c d (spD_hush z)⟩
end Fs

/-! F15: in, is of truths, bit_length. -/
namespace Fs
open PySem L2
def gIn : B2
  | .str x, .str z => match x.cps.toList with
    | [c] => some (.bl (decide (c ∈ z.cps.toList)))
    | _ => none
  | .str x, .tup ds => (strsOf ds).map fun zs => .bl (decide (x ∈ zs))
  | .str x, .lst ds => (strsOf ds).map fun zs => .bl (decide (x ∈ zs))
  | .int x, .tup ds => (intsOf ds).map fun zs => .bl (decide (x ∈ zs))
  | .int x, .lst ds => (intsOf ds).map fun zs => .bl (decide (x ∈ zs))
  | _, _ => none
def gNin : B2 := fun x y => match gIn x y with
  | some (.bl b) => some (.bl !b)
  | _ => none
theorem inV_strs (x : Str) : ∀ zs : List Str, inV (.str x) (zs.map V.str) = decide (x ∈ zs)
  | [] => by simp [inV]
  | z :: zs => by
    have ih := inV_strs x zs
    unfold inV at ih ⊢
    rw [List.map_cons, List.any_cons, ih]
    have e : eqV (.str z) (.str x) = (z == x) := rfl
    rw [e]
    by_cases h : z = x
    · simp [h]
    · have h' : ¬ x = z := fun q => h q.symm
      simp [h, h']
theorem flat_strs : ∀ zs : List Str, (zs.map V.str).all flatV = true
  | [] => rfl
  | z :: zs => by
    rw [List.map_cons, List.all_cons, flat_strs zs]
    rfl
theorem inV_ints (x : Int) : ∀ zs : List Int, inV (.int x) (zs.map V.int) = decide (x ∈ zs)
  | [] => by simp [inV]
  | z :: zs => by
    have ih := inV_ints x zs
    unfold inV at ih ⊢
    rw [List.map_cons, List.any_cons, ih]
    have e : eqV (.int z) (.int x) = (z == x) := rfl
    rw [e]
    by_cases h : z = x
    · simp [h]
    · have h' : ¬ x = z := fun q => h q.symm
      simp [h, h']
theorem flat_ints : ∀ zs : List Int, (zs.map V.int).all flatV = true
  | [] => rfl
  | z :: zs => by
    rw [List.map_cons, List.all_cons, flat_ints zs]
    rfl
theorem one_sign {x : Str} {c : Nat} (h : x.cps.toList = [c]) : x = ⟨#[c]⟩ := by
  cases x with
  | mk a =>
    congr 1
    exact Array.toList_inj.mp h
section
variable {X : Cx}
theorem o_in : OpR X (compareOp .In) (rD X.K gIn) := by
  intro pins s σ H x y v u Q I rx ry h
  obtain ⟨G, dx, dy, d, e, sub, r1, r2, h⟩ := h
  cases r1 <;> cases r2 <;> simp only [gIn, reduceCtorEq] at e
  · rename_i x a vs ds p q
    cases hz : intsOf ds with
    | none => rw [hz] at e; exact nomatch e
    | some zs =>
      rw [hz] at e
      simp only [Option.map_some, Option.some.injEq] at e
      subst e
      have hd := intsOf_eq hz
      subst hd
      have hv := RepL.of_ints q
      subst hv
      refine op_in_seq pins s σ H _ _ v u Q I rx ry ⟨a, _, rfl, .inr (sqt_mono sub p), rfl, flat_ints zs, ?_⟩
      rw [inV_ints]
      exact h _ G H (Stp.refl sub) (.bl _)
  · rename_i x a vs ds p q
    cases hz : intsOf ds with
    | none => rw [hz] at e; exact nomatch e
    | some zs =>
      rw [hz] at e
      simp only [Option.map_some, Option.some.injEq] at e
      subst e
      have hd := intsOf_eq hz
      subst hd
      have hv := RepL.of_ints q
      subst hv
      refine op_in_seq pins s σ H _ _ v u Q I rx ry ⟨a, _, rfl, .inl (sub.seq p), rfl, flat_ints zs, ?_⟩
      rw [inV_ints]
      exact h _ G H (Stp.refl sub) (.bl _)
  · rename_i x z
    split at e
    · rename_i c hc
      simp only [Option.some.injEq] at e
      subst e
      exact op_in_sign pins s σ H _ _ v u Q I rx ry ⟨c, z, by rw [one_sign hc], rfl, h _ G H (Stp.refl sub) (.bl _)⟩
    · exact nomatch e
  · rename_i x a vs ds p q
    cases hz : strsOf ds with
    | none => rw [hz] at e; exact nomatch e
    | some zs =>
      rw [hz] at e
      simp only [Option.map_some, Option.some.injEq] at e
      subst e
      have hd := strsOf_eq hz
      subst hd
      have hv := RepL.of_strs q
      subst hv
      refine op_in_seq pins s σ H _ _ v u Q I rx ry ⟨a, _, rfl, .inr (sqt_mono sub p), rfl, flat_strs zs, ?_⟩
      rw [inV_strs]
      exact h _ G H (Stp.refl sub) (.bl _)
  · rename_i x a vs ds p q
    cases hz : strsOf ds with
    | none => rw [hz] at e; exact nomatch e
    | some zs =>
      rw [hz] at e
      simp only [Option.map_some, Option.some.injEq] at e
      subst e
      have hd := strsOf_eq hz
      subst hd
      have hv := RepL.of_strs q
      subst hv
      refine op_in_seq pins s σ H _ _ v u Q I rx ry ⟨a, _, rfl, .inl (sub.seq p), rfl, flat_strs zs, ?_⟩
      rw [inV_strs]
      exact h _ G H (Stp.refl sub) (.bl _)
theorem o_nin : OpR X (compareOp .NotIn) (rD X.K gNin) := by
  intro pins s σ H x y v u Q I rx ry h
  obtain ⟨G, dx, dy, d, e, sub, r1, r2, h⟩ := h
  unfold gNin at e
  cases r1 <;> cases r2 <;> simp only [gIn, reduceCtorEq] at e
  · rename_i x a vs ds p q
    cases hz : intsOf ds with
    | none => rw [hz] at e; exact nomatch e
    | some zs =>
      rw [hz] at e
      simp only [Option.map_some, Option.some.injEq] at e
      subst e
      have hd := intsOf_eq hz
      subst hd
      have hv := RepL.of_ints q
      subst hv
      refine op_notIn_seq pins s σ H _ _ v u Q I rx ry ⟨a, _, rfl, .inr (sqt_mono sub p), rfl, flat_ints zs, ?_⟩
      rw [inV_ints]
      exact h _ G H (Stp.refl sub) (.bl _)
  · rename_i x a vs ds p q
    cases hz : intsOf ds with
    | none => rw [hz] at e; exact nomatch e
    | some zs =>
      rw [hz] at e
      simp only [Option.map_some, Option.some.injEq] at e
      subst e
      have hd := intsOf_eq hz
      subst hd
      have hv := RepL.of_ints q
      subst hv
      refine op_notIn_seq pins s σ H _ _ v u Q I rx ry ⟨a, _, rfl, .inl (sub.seq p), rfl, flat_ints zs, ?_⟩
      rw [inV_ints]
      exact h _ G H (Stp.refl sub) (.bl _)
  · rename_i x z
    split at e
    · rename_i b hb
      simp only [Option.some.injEq] at e
      subst e
      split at hb
      · rename_i c hc
        simp only [Option.some.injEq, D.bl.injEq] at hb
        subst hb
        exact op_notIn_sign pins s σ H _ _ v u Q I rx ry ⟨c, z, by rw [one_sign hc], rfl, h _ G H (Stp.refl sub) (.bl _)⟩
      · exact nomatch hb
    · exact nomatch e
  · rename_i x a vs ds p q
    cases hz : strsOf ds with
    | none => rw [hz] at e; exact nomatch e
    | some zs =>
      rw [hz] at e
      simp only [Option.map_some, Option.some.injEq] at e
      subst e
      have hd := strsOf_eq hz
      subst hd
      have hv := RepL.of_strs q
      subst hv
      refine op_notIn_seq pins s σ H _ _ v u Q I rx ry ⟨a, _, rfl, .inr (sqt_mono sub p), rfl, flat_strs zs, ?_⟩
      rw [inV_strs]
      exact h _ G H (Stp.refl sub) (.bl _)
  · rename_i x a vs ds p q
    cases hz : strsOf ds with
    | none => rw [hz] at e; exact nomatch e
    | some zs =>
      rw [hz] at e
      simp only [Option.map_some, Option.some.injEq] at e
      subst e
      have hd := strsOf_eq hz
      subst hd
      have hv := RepL.of_strs q
      subst hv
      refine op_notIn_seq pins s σ H _ _ v u Q I rx ry ⟨a, _, rfl, .inl (sub.seq p), rfl, flat_strs zs, ?_⟩
      rw [inV_strs]
      exact h _ G H (Stp.refl sub) (.bl _)
def gIsB : B2
  | .bl a, .bl b => some (.bl (decide (a = b)))
  | _, _ => none
def gNotB : B2
  | .bl a, .bl b => some (.bl (!decide (a = b)))
  | _, _ => none
theorem o_isB : OpR X (compareOp .Is) (rD X.K gIsB) := by
  intro pins s σ H x y v u Q I rx ry h
  obtain ⟨G, dx, dy, d, e, sub, r1, r2, h⟩ := h
  cases r1 <;> cases r2 <;> simp only [gIsB, Option.some.injEq, reduceCtorEq] at e
  subst e
  exact op_isBl pins s σ H _ _ v u Q I rx ry ⟨_, _, rfl, rfl, h _ G H (Stp.refl sub) (.bl _)⟩
theorem o_notB : OpR X (compareOp .IsNot) (rD X.K gNotB) := by
  intro pins s σ H x y v u Q I rx ry h
  obtain ⟨G, dx, dy, d, e, sub, r1, r2, h⟩ := h
  cases r1 <;> cases r2 <;> simp only [gNotB, Option.some.injEq, reduceCtorEq] at e
  subst e
  exact op_notBl pins s σ H _ _ v u Q I rx ry ⟨_, _, rfl, rfl, h _ G H (Stp.refl sub) (.bl _)⟩
variable {C : Cc}
def eBits (f : E) : E := fun δ => (f δ).bind fun d => match d with
  | .int i => .ok (.int (Builtin.Int.intBits i : Nat))
  | _ => .stk
theorem se_bits {o : Expr} {f : E} {apos pos : Pos} (ho : SE X C o f) (hbase : attributeBase o "bit_length" X.env (eval o X.env) = eval o X.env := by rfl) (hline : (apos.endLine == pos.line) = true := by rfl) : SE X C (.Call (.Attribute o "bit_length" apos) [] [] pos) (eBits f) :=
  pe_weak (pe_bits ho hbase hline) fun σ H Q ⟨δ, G, re, h⟩ => ⟨δ, G, re, onR_mono (onR_RR h) fun d v G1 H1 s1 r1 h1 => by
    cases r1 with
    | int i => exact ⟨i, rfl, h1 _ G1 H1 (Stp.refl s1.sub) (.int _)⟩
    | non => exact h1.elim
    | bl b => exact h1.elim
    | str x => exact h1.elim
    | fn x => exact h1.elim
    | dct p l q => exact h1.elim
    | tup p q => exact h1.elim
    | lst p q => exact h1.elim⟩
end
@[simp] theorem v_eBits (f : E) (δ : Sl) : eBits f δ = (f δ).bind fun d => match d with
  | .int i => .ok (.int (Builtin.Int.intBits i : Nat))
  | _ => .stk := id rfl
@[simp] theorem v_isB (a b : Bool) : gIsB (.bl a) (.bl b) = some (.bl (decide (a = b))) := id rfl
@[simp] theorem v_notB (a b : Bool) : gNotB (.bl a) (.bl b) = some (.bl (!decide (a = b))) := id rfl
@[simp] theorem v_eqS (a b : Str) : gEq (.str a) (.str b) = some (.bl (decide (a = b))) := id rfl
@[simp] theorem v_neS (a b : Str) : gNe (.str a) (.str b) = some (.bl (!decide (a = b))) := id rfl
@[simp] theorem v_addS (x y : Str) : gAdd (.str x) (.str y) = if x.length + y.length ≤ sizeLine then some (.str (x ++ y)) else none := id rfl
@[simp] theorem v_addT (xs ys : List D) : gAdd (.tup xs) (.tup ys) = if xs.length + ys.length ≤ sizeLine then some (.tup (xs ++ ys)) else none := id rfl
@[simp] theorem v_ixS (z : Str) (i : Int) : gIx (.str z) (.int i) = if z.length ≤ sizeLine then (atI z.cps.toList i).map fun c => .str ⟨#[c]⟩ else none := id rfl
end Fs

/-! F16: the empty dict, range with a step, max and min of a list. -/
namespace Fs
open PySem L2
section
variable {X : Cx} {C : Cc} {pos : Pos}
theorem se_dic0 : SE X C (.Dict [] [] pos) (eC (.dct [] [])) :=
  pe_weak pe_dnewK fun σ H Q ⟨δ, G, re, h⟩ => fun p hp => h (.ref p) (upd G p (.dK [])) (upd H p (.dK [])) (Stp.new re.sub hp _) (.dct (vs := []) upd_same rfl .nil)
/-! range(a, b, c) -/
def rngS (lo c : Int) (n : Nat) : List D := (List.range n).map fun (i : Nat) => .int (lo + (i : Int) * c)
theorem rngS_get {lo c : Int} {n i : Nat} (h : i < n) : (rngS lo c n)[i]? = some (.int (lo + (i : Int) * c)) := by simp [rngS, h]
theorem itOk_rngS {K : PySem.W.Frag} {G : Hp} {lo c : Int} {n : Nat} : ItOk K (Itc lo c n) G (rngS lo c n) where
  go := fun i H s hi => by show i < n; simpa [rngS] using hi
  stop := fun i H s hi => by show n ≤ i; simpa [rngS] using hi
  yld := fun i H v H' Gc s1 s2 hi y => by
    obtain ⟨rfl, rfl⟩ := y
    have hi' : i < n := by simpa [rngS] using hi
    exact ⟨_, Gc, rngS_get hi', Stp.refl s2, .int _⟩
def rng3Ok (i j c : Int) : Prop := c ≠ 0 ∧ c.natAbs < 1073741824 ∧ Builtin.Range.small i j c = true ∧ 0 ≤ Builtin.Range.rangeSize i j c
instance (i j c : Int) : Decidable (rng3Ok i j c) := inferInstanceAs (Decidable (c ≠ 0 ∧ c.natAbs < 1073741824 ∧ Builtin.Range.small i j c = true ∧ 0 ≤ Builtin.Range.rangeSize i j c))
def iRange3 (a : As) : As := fun δ => (a δ).bind fun ds => match ds with
  | [.int i, .int j, .int c] => if rng3Ok i j c then .ok (rngS i c (Builtin.Range.rangeSize i j c).toNat) else .stk
  | _ => .stk
theorem si_range3 {tg a b c : Expr} {f : As} {p pos : Pos} (hg : Gl X "range") (hm : X.mg "range" = none) (ha : SA X C [a, b, c] f)
    (hs : starEach [a, b, c] X.env = (false, eval a X.env) :: starEach [b, c] X.env := by rfl) (hpl : (backTo pos (starEach [b, c] X.env)).any (·.1) = false := by rfl) :
    SI X C tg (.Call (.Name "range" p) [a, b, c] [] pos) (iRange3 f) :=
  pi_weak (pi_range3 hg hm ha hs hpl) fun σ H R ⟨δ, G, re, h⟩ => ⟨δ, G, re, onA_mono (onA_AI h) fun ds vs G1 H1 s1 r1 h1 => by
    split at h1
    · rename_i i j c
      cases r1 with
      | cons r2 r3 =>
        cases r2
        cases r3 with
        | cons r4 r5 =>
          cases r4
          cases r5 with
          | cons r6 r7 =>
            cases r6
            cases r7
            split at h1
            · rename_i hz
              obtain ⟨z1, z2, z3, z4⟩ := hz
              exact ⟨_, _, _, _, rfl, ⟨z1, z2, z3, (Int.toNat_of_nonneg z4).symm⟩, h1 _ G1 H1 (Stp.refl s1.sub) itOk_rngS⟩
            · exact h1.elim
    · exact h1.elim⟩
/-! max, min of a list of numbers -/
def maxI : List Int → Option Int
  | [] => none
  | x :: xs => match maxI xs with
    | none => some x
    | some m => some (if x ≤ m then m else x)
def minI : List Int → Option Int
  | [] => none
  | x :: xs => match minI xs with
    | none => some x
    | some m => some (if m ≤ x then m else x)
theorem maxI_none : ∀ {xs : List Int}, maxI xs = none → xs = []
  | [], _ => rfl
  | x :: xs, h => by
    simp only [maxI] at h
    split at h <;> exact nomatch h
theorem minI_none : ∀ {xs : List Int}, minI xs = none → xs = []
  | [], _ => rfl
  | x :: xs, h => by
    simp only [minI] at h
    split at h <;> exact nomatch h
theorem maxI_spec : ∀ {xs : List Int} {m : Int}, maxI xs = some m → m ∈ xs ∧ ∀ y ∈ xs, y ≤ m
  | [], m, h => nomatch h
  | x :: xs, m, h => by
    simp only [maxI] at h
    split at h
    · rename_i e
      have := maxI_none e
      subst this
      cases h
      exact ⟨by simp, fun y hy => by simp at hy; omega⟩
    · rename_i m' e
      obtain ⟨h1, h2⟩ := maxI_spec e
      simp only [Option.some.injEq] at h
      subst h
      refine ⟨?_, fun y hy => ?_⟩
      · split
        · exact List.mem_cons_of_mem _ h1
        · exact List.mem_cons_self
      · rcases List.mem_cons.mp hy with rfl | hy
        · split <;> omega
        · have := h2 y hy
          split <;> omega
theorem minI_spec : ∀ {xs : List Int} {m : Int}, minI xs = some m → m ∈ xs ∧ ∀ y ∈ xs, m ≤ y
  | [], m, h => nomatch h
  | x :: xs, m, h => by
    simp only [minI] at h
    split at h
    · rename_i e
      have := minI_none e
      subst this
      cases h
      exact ⟨by simp, fun y hy => by simp at hy; omega⟩
    · rename_i m' e
      obtain ⟨h1, h2⟩ := minI_spec e
      simp only [Option.some.injEq] at h
      subst h
      refine ⟨?_, fun y hy => ?_⟩
      · split
        · exact List.mem_cons_of_mem _ h1
        · exact List.mem_cons_self
      · rcases List.mem_cons.mp hy with rfl | hy
        · split <;> omega
        · have := h2 y hy
          split <;> omega
def gMaxL : BA
  | [.lst xs] => (intsOf xs).bind fun ns => (maxI ns).map .int
  | _ => none
def gMinL : BA
  | [.lst xs] => (intsOf xs).bind fun ns => (minI ns).map .int
  | _ => none
theorem b_maxL (hc : X.calm = true) : CallR X (.builtin "max") (rDA X.K gMaxL) := by
  intro pins s σ H xs us Q I r h
  obtain ⟨G, ds, d, e, sub, rl, h⟩ := h
  unfold gMaxL at e
  split at e
  · rename_i xs
    cases hz : intsOf xs with
    | none => rw [hz] at e; exact nomatch e
    | some ns =>
      rw [hz] at e
      simp only [Option.bind_some] at e
      cases hm : maxI ns with
      | none => rw [hm] at e; exact nomatch e
      | some m =>
        rw [hm] at e
        simp only [Option.map_some, Option.some.injEq] at e
        subst e
        have hd := intsOf_eq hz
        subst hd
        cases rl with
        | cons r1 r2 =>
          cases r2
          cases r1 with
          | lst p q =>
            have hv := RepL.of_ints q
            subst hv
            obtain ⟨h1, h2⟩ := maxI_spec hm
            refine cr_max hc pins s σ H _ us Q I r ⟨_, ns, rfl, sub.seq p, List.length_pos_of_mem h1, fun m' h3 h4 => ?_⟩
            have e2 : m' = m := Int.le_antisymm (h2 m' h3) (h4 m h1)
            subst e2
            exact h _ G H (Stp.refl sub) (.int _)
  · exact nomatch e
theorem b_minL (hc : X.calm = true) : CallR X (.builtin "min") (rDA X.K gMinL) := by
  intro pins s σ H xs us Q I r h
  obtain ⟨G, ds, d, e, sub, rl, h⟩ := h
  unfold gMinL at e
  split at e
  · rename_i xs
    cases hz : intsOf xs with
    | none => rw [hz] at e; exact nomatch e
    | some ns =>
      rw [hz] at e
      simp only [Option.bind_some] at e
      cases hm : minI ns with
      | none => rw [hm] at e; exact nomatch e
      | some m =>
        rw [hm] at e
        simp only [Option.map_some, Option.some.injEq] at e
        subst e
        have hd := intsOf_eq hz
        subst hd
        cases rl with
        | cons r1 r2 =>
          cases r2
          cases r1 with
          | lst p q =>
            have hv := RepL.of_ints q
            subst hv
            obtain ⟨h1, h2⟩ := minI_spec hm
            refine cr_min hc pins s σ H _ us Q I r ⟨_, ns, rfl, sub.seq p, List.length_pos_of_mem h1, fun m' h3 h4 => ?_⟩
            have e2 : m' = m := Int.le_antisymm (h4 m h1) (h2 m' h3)
            subst e2
            exact h _ G H (Stp.refl sub) (.int _)
  · exact nomatch e
end
@[simp] theorem v_iRange3 (a : As) (δ : Sl) : iRange3 a δ = (a δ).bind fun ds => match ds with
  | [.int i, .int j, .int c] => if rng3Ok i j c then .ok (rngS i c (Builtin.Range.rangeSize i j c).toNat) else .stk
  | _ => .stk := id rfl
@[simp] theorem v_tyD (ks : List Key) (ds : List D) : tyN (.dct ks ds) = some "dict" := id rfl
@[simp] theorem v_isTy_dictint : isTy "dict" "int" = false := by decide
@[simp] theorem v_isTy_dictbool : isTy "dict" "bool" = false := by decide
@[simp] theorem v_isTy_dictstr : isTy "dict" "str" = false := by decide
@[simp] theorem v_isTy_dicttuple : isTy "dict" "tuple" = false := by decide
@[simp] theorem v_isTy_dictlist : isTy "dict" "list" = false := by decide
end Fs

/-! F17: enumerate of a tuple. -/
namespace FsT
open PySem
set_option maxHeartbeats 1000000 in
theorem meets_en {src : Value} {ob : Obj} {Hh : Heap → Prop} (B : Begins src ob Hh) :
    Meets (Builtin.«enumerate.__new__» ⟨[.type "enumerate", src], []⟩) (fun _ R s0 => Hh s0.heap ∧
      R (.ok (.ret (.ref (s0.heap.push ob).objs.size))) { s0 with heap := (s0.heap.push ob).push { cls := .type "enumerate", data := .fields #[.none, .bool false, .ref s0.heap.objs.size, rawInt 0, .none, .none] } }) :=
  .of_wp fun pr wo Ar RR s0 hh => by
    obtain ⟨hp, gg, dd, tt, oo⟩ := s0
    obtain ⟨b1, b2⟩ := hh
    have hsub := sub_enumerate
    have qq : ∀ {A' : Around} {E' : Value → Shared → Prop} {Q' : Value → Shared → Prop}, Q' (.ref hp.objs.size) ⟨hp.push ob, gg, dd, tt, oo⟩ → wpAny (model pr wo) A' (pyIter src) Q' E' ⟨hp, gg, dd, tt, oo⟩ := fun z => B.iter pr wo _ _ ⟨hp, gg, dd, tt, oo⟩ _ b1 z
    wp_walk using qq
    refine wpAny_stack_any fun _ => wpAny_pure ?_
    split
    · rename_i c _ _ _ _ _
      cases (c == Value.type "enumerate") <;> (wp_walk using qq; exact ⟨_, rfl, b2⟩)
    · (wp_walk using qq; exact ⟨_, rfl, b2⟩)
section
variable {prog : Program} {w : World} {A : Around} {E : Value → Shared → Prop} {s : Shared}
theorem call_en {src : Value} {ob : Obj} {Hh : Heap → Prop} {Q : Value → Shared → Prop} (B : Begins src ob Hh) (h1 : Hh s.heap)
    (h : ∀ h', IsEnum h' (s.heap.objs.size + 1) s.heap.objs.size 0 .none → h'.get? s.heap.objs.size = some ob → (∀ b u, s.heap.get? b = some u → h'.get? b = some u) → Q (.ref (s.heap.objs.size + 1)) { s with heap := h' }) :
    wpAny (model prog w) A (call (.type "enumerate") [src]) Q E s := by
  refine callType_new F.called_enumerate (by decide) (F.typeCall_enumerate_1 _) (F.newCall_enumerate_1 _) (fun ob2 => F.args_object_init_2 ob2 _) F.entry_enumerate_new (meets_en B) ⟨h1, ?_⟩
  have hz : (s.heap.push ob).objs.size = s.heap.objs.size + 1 := Heap.size_push ..
  show _ ∧ _
  rw [hz]
  have en : IsEnum ((s.heap.push ob).push { cls := .type "enumerate", data := .fields #[.none, .bool false, .ref s.heap.objs.size, rawInt 0, .none, .none] }) (s.heap.objs.size + 1) s.heap.objs.size 0 .none := by
    have z := Heap.get?_push_size (s.heap.push ob) (o := { cls := .type "enumerate", data := .fields #[.none, .bool false, .ref s.heap.objs.size, rawInt 0, .none, .none] }) rfl
    rw [hz] at z
    exact z
  exact ⟨⟨_, en, rfl⟩, h _ en (Heap.get?_push_of_some _ (Heap.get?_push_size _ B.free)) fun b u x => Heap.get?_push_of_some _ (Heap.get?_push_of_some _ x)⟩
end
end FsT
namespace Fs
open PySem L2 PySem.Spec PyProof.Rows
/-- the tuple at a as it stands at each turn, each item in a new pair -/
def IteT (K : PySem.W.Frag) (a : Addr) : It :=
  ⟨fun i H => ∃ (xs : List V) (x : V), SqT K H a xs ∧ xs[i]? = some x,
   fun i H v H' => ∃ T x, v = .ref T ∧ H T = none ∧ H' = upd H T (.tup [.int (i : Nat), x]) ∧ ∀ xs, SqT K H a xs → xs[i]? = some x,
   fun i H => ∃ xs : List V, SqT K H a xs ∧ xs.length ≤ i⟩
theorem turn_enT {P : Program} {w : World} {K : PySem.W.Frag} {elts : List Expr} {kk : Nat} {tpos : Pos} (a e it : Addr) (hae : a ≠ e) (hai : a ≠ it) (hne : e ≠ it) :
    Turn P w K (.Tuple elts kk tpos) (IteT K a) [e, it] e (fun i h => (∃ old, IsEnum h e it ((i : Nat) : Int) old) ∧ h.IsTupleIter it a i) where
  mem := by simp
  obj := fun i h st b hb => by
    obtain ⟨⟨old, he⟩, o, ho, hc, hd⟩ := st
    rcases (show b = e ∨ b = it by simpa using hb) with z | z <;> rw [z]
    · exact ⟨_, he, fun v q => nomatch q⟩
    · exact ⟨o, ho, fun v q => by rw [hd] at q; cases q⟩
  keep := fun i h h' st k => ⟨st.1.elim fun old he => ⟨old, k e (by simp) _ he⟩, st.2.at fun o q => k it (by simp) o q⟩
  item := by
    intro X hP hw hK hc i pins s σ H E I hf st hg
    subst hP hw hK
    obtain ⟨⟨old, he⟩, hit⟩ := st
    obtain ⟨xs, x, hq, hx⟩ := hg
    obtain ⟨its, rv, p, hz⟩ := I.tuple hq
    obtain ⟨u, hu, ru⟩ := rv.get hx
    have hel : e < s.heap.objs.size := Heap.lt_size he
    have hil : it < s.heap.objs.size := hit.elim fun _ q => Heap.lt_size q.1
    have hlt : i < its.toArray.size := by
      have := (List.getElem?_eq_some_iff.mp hu).1
      simpa using this
    have p' : s.heap.IsTuple a its.toArray := p
    refine wpAny_pyNext_enum_itemD (Draws.tuple (show X.A.in1.handled = none from I.ok.hd hc) it a hai its.toArray) he ⟨hit, p'⟩ hlt hne (by simp [hne, Ne.symm hae]) fun v h' tk hv ho st' hT hsz hk => ?_
    have huv : v = u := by
      have z : its.toArray[i]? = some u := by simpa using hu
      rw [z] at hv
      exact (Option.some.inj hv).symm
    subst huv
    refine ⟨_, rfl, wpAny_letOwnedTupleGo_enum (s := { s with heap := h', toks := tk + 1 }) ho fun h'' he' sb => ?_⟩
    have hT2 := (sb.2 _ (Nat.ne_of_gt hel)).trans hT
    have new : ObjOk X.prog X.w (upd H s.heap.objs.size (.tup [.int (i : Nat), x])) h'' s.heap.objs.size (.tup [.int (i : Nat), x]) := ⟨by show 2 ≤ sizeLine; decide, _, .cons ⟨_, rfl⟩ (.cons ru .nil), ⟨_, hT2, rfl, _, rfl⟩⟩
    have I1 : Inv X pins σ (upd H s.heap.objs.size (.tup [.int (i : Nat), x])) { s with heap := h'', toks := tk + 1 } :=
      I.turnedNew (ch := [e, it]) (fun b ob hb q => (sb.2 b fun z => hb (by simp [z])).trans (hk b ob (fun z => hb (by simp [z])) (fun z => hb (by simp [z])) q)) hf (Nat.le_refl _) new
    refine ⟨.ref s.heap.objs.size, _, I1, rfl, ⟨_, x, rfl, I.hok.fresh (Nat.le_refl _), rfl, fun ys hy => by rw [I.tuple_inj hy hq]; exact hx⟩, ⟨⟨v, ?_⟩, st'.1.at fun o q => (sb.2 it hne.symm).trans q⟩, fun b hb => ?_⟩
    · rw [show ((i + 1 : Nat) : Int) = (i : Int) + 1 by omega]
      exact he'
    · have hb' : b < s.heap.objs.size := by
        rcases (show b = e ∨ b = it by simpa using hb) with z | z <;> rw [z] <;> assumption
      rw [upd_ne (Nat.ne_of_lt hb')]
      exact (hf b hb).1
  done := by
    intro X hP hw hK hc i pins s σ H E I hf st hg
    subst hP hw hK
    obtain ⟨⟨old, he⟩, hit⟩ := st
    obtain ⟨xs, hq, hx⟩ := hg
    obtain ⟨its, rv, p, hz⟩ := I.tuple hq
    obtain ⟨f0, f1, f2, f3, f4, f5⟩ := hf it (by simp)
    have hl := rv.length
    have p' : s.heap.IsTuple a its.toArray := p
    have D0 : Draws X.prog X.w X.A.in1 it [it, a] i (fun _ _ => True) (fun j h => j = i ∧ h.IsTupleIter it a j ∧ h.IsTuple a its.toArray) := {
      live := fun _ _ st => st.2.1.elim fun o q => ⟨o, q.1⟩
      frame := fun _ _ _ st hk => ⟨st.1, st.2.1.at fun o q => hk it (by simp) o q, st.2.2.at fun o q => hk a (by simp) o q⟩
      item := fun j _ _ _ hj st => absurd st.1 (Nat.ne_of_lt hj)
      done := fun s' Q' E' st hE => wpAny_nextOf_tuple_end (show X.A.in1.handled = none from I.ok.hd hc) st.2.1 st.2.2 (by simp; omega) hE }
    exact wpAny_pyNext_enum_endD D0 he ⟨rfl, hit, p'⟩ fun h' eb => ⟨rfl, I.turned (t' := s.toks) (fun b o hb q => eb b o hb q) f0 f1 f3 f4 f5⟩
  self := fun A i s Q E st h => st.1.elim fun _ he => wpAny_pyIter_enum he h
section
variable {X : Cx} {C : Cc}
theorem pi_enT {e : Expr} {ta : TA} {p pos tpos : Pos} {elts : List Expr} {kk : Nat} (hg : Gl X "enumerate") (hm : X.mg "enumerate" = none) (ha : PA X [e] ta) (hs : starEach [e] X.env = [(false, eval e X.env)] := by rfl) :
    PI X (.Tuple elts kk tpos) (.Call (.Name "enumerate" p) [e] [] pos) (fun σ H R => ta σ H fun vs H1 => ∃ a xs, vs = [.ref a] ∧ ((SqL X.K H1 a xs ∧ R (Ite X.K a) H1) ∨ (SqT X.K H1 a xs ∧ R (IteT X.K a) H1))) := by
  refine ⟨fun pins s σ H R I h => ?_⟩
  refine Call_ (ld_blt I hg hm boot_enumerate (PyProof.Rows.callWith_type1 (thn (ha.run pos pins s σ H _ I h) fun us s1 ⟨vs, H1, I1, r1, q1⟩ => ?_) hs rfl))
  obtain ⟨a, xs, ex, q⟩ := q1
  subst ex
  cases r1 with
  | cons r rr =>
    cases rr
    cases r
    have old : ∀ b, b ∈ [s1.heap.objs.size + 1, s1.heap.objs.size] → FpOk X pins H1 b := fun b hb => by
      have hle : s1.heap.objs.size ≤ b := by
        rcases (show b = s1.heap.objs.size + 1 ∨ b = s1.heap.objs.size by simpa using hb) with z | z <;> rw [z] <;> omega
      exact I1.fpOk hle (I1.hok.fresh hle)
    rcases q with ⟨hq, q⟩ | ⟨hq, q⟩
    · obtain ⟨its, rv, p', hz⟩ := I1.list hq
      refine call_enumerate_list p'.isList fun h' he hit hsz hk => wpAny_pyIter_enum he ?_
      have I2 : Inv X pins σ H1 { s1 with heap := h' } := I1.kept (t' := s1.toks) hk
      exact ⟨s1.heap.objs.size + 1, [s1.heap.objs.size + 1, s1.heap.objs.size], _, _, H1, rfl, I2, turn_enum a (s1.heap.objs.size + 1) s1.heap.objs.size, ⟨⟨.none, he⟩, hit, Nat.succ_ne_self _⟩, old, q⟩
    · obtain ⟨its, rv, p', hz⟩ := I1.tuple hq
      have pt : s1.heap.IsTuple a its.toArray := p'
      have hlt : a < s1.heap.objs.size := (id pt).elim fun o q => Heap.lt_size q.1
      refine FsT.call_en (begins_tuple a its.toArray) pt fun h' he ho hk => wpAny_pyIter_enum he ?_
      have I2 : Inv X pins σ H1 { s1 with heap := h' } := I1.kept (t' := s1.toks) hk
      exact ⟨s1.heap.objs.size + 1, [s1.heap.objs.size + 1, s1.heap.objs.size], _, _, H1, rfl, I2, turn_enT a (s1.heap.objs.size + 1) s1.heap.objs.size (Nat.ne_of_lt (Nat.lt_succ_of_lt hlt)) (Nat.ne_of_lt hlt) (Nat.succ_ne_self _), ⟨⟨.none, he⟩, ⟨_, ho, rfl, rfl⟩⟩, old, q⟩
theorem itOk_enT {K : PySem.W.Frag} {G : Hp} {a : Addr} {vs : List V} {ds : List D} (h : SqT K G a vs) (r : RepL K G ds vs) : ItOk K (IteT K a) G (ds.zipIdx.map fun p => .tup [.int (p.2 : Nat), p.1]) where
  go := fun i H s hi => by
    have hi' : i < ds.length := by simpa using hi
    obtain ⟨v, e, _⟩ := r.get (List.getElem?_eq_getElem hi')
    exact ⟨vs, v, sqt_mono s h, e⟩
  stop := fun i H s hi => ⟨vs, sqt_mono s h, by rw [← r.length]; simpa using hi⟩
  yld := fun i H x H' Gc s1 s2 hi y => by
    have hi' : i < ds.length := by simpa using hi
    obtain ⟨v, e, rv⟩ := r.get (List.getElem?_eq_getElem hi')
    obtain ⟨T, x0, rfl, hT, rfl, y2⟩ := y
    have z := y2 vs (sqt_mono (s1.trans s2) h)
    rw [e] at z
    cases z
    refine ⟨.tup [.int (i : Nat), ds[i]], upd Gc T (.tup [.int (i : Nat), v]), ?_, Stp.new s2 hT _, .tup (SqT.of upd_same) (.cons (.int _) (.cons ?_ .nil))⟩
    · simp [hi']
    · exact (rv.mono s1).mono (same_new (s2.free hT) _)
def iEnumE (a : As) : As := fun δ => (a δ).bind fun ds => match ds with
  | [.lst xs] => .ok (enumD xs)
  | [.tup xs] => .ok (enumD xs)
  | _ => .stk
theorem si_enumE {e : Expr} {f : As} {p pos tpos : Pos} {elts : List Expr} {kk : Nat} (hg : Gl X "enumerate") (hm : X.mg "enumerate" = none) (ha : SA X C [e] f) (hs : starEach [e] X.env = [(false, eval e X.env)] := by rfl) :
    SI X C (.Tuple elts kk tpos) (.Call (.Name "enumerate" p) [e] [] pos) (iEnumE f) :=
  pi_weak (pi_enT hg hm ha hs) fun σ H R ⟨δ, G, re, h⟩ => ⟨δ, G, re, onA_mono (onA_AI h) fun ds vs G1 H1 s1 r1 h1 => by
    split at h1
    · cases r1 with
      | cons r2 r3 =>
        cases r3
        cases r2 with
        | @lst a us _ pp q => exact ⟨a, us, rfl, .inl ⟨s1.sub.seq pp, h1 _ G1 H1 (Stp.refl s1.sub) (itOk_enum pp q)⟩⟩
    · cases r1 with
      | cons r2 r3 =>
        cases r3
        cases r2 with
        | @tup a us _ pp q => exact ⟨a, us, rfl, .inr ⟨sqt_mono s1.sub pp, h1 _ G1 H1 (Stp.refl s1.sub) (itOk_enT pp q)⟩⟩
    · exact h1.elim⟩
end
@[simp] theorem v_iEnumE (a : As) (δ : Sl) : iEnumE a δ = (a δ).bind fun ds => match ds with
  | [.lst xs] => .ok (enumD xs)
  | [.tup xs] => .ok (enumD xs)
  | _ => .stk := id rfl
end Fs

/-! F18: try .. except C as e: x = f(e), f a def that asks isinstance of e. -/
namespace Fs
open PySem L2 L2H PySem.Spec PyProof.Rows
/-- what f says of the exception that is handled, of the class D: b -/
structure FnAl (P : Program) (w : World) (K : PySem.W.Frag) (mg : Str → Option Value) (base : Heap) (k : Nat) (f : Addr) (fd : FuncData) (ps : List Str) (D : Addr) (b : Bool) : Prop where
  one : ps.length = 1
  run : ∀ (A : Around) (outer : List Env) (s : Shared) (H : Hp) (args : Args) (us : List Value) (Q : VK) (a : Addr) (oe : Obj), RoomH k A → PinOk outer H s (a, oe) → Zc (.ref D) none oe → (∃ vs, oe.data = .fields vs) → Env0 P w K mg base A outer s H →
    BindsTo s fd args (ps.zip us) → Vals [.ref a] us → (∀ H', Same H H' → Q (.bl b) H') → codeAny (model P w) A (.call (.ref f) args) (CR (L2.CX P w) outer P w H s Q fun _ _ _ => False) s
section
variable {P : Program} {w : World} {K : PySem.W.Frag} {mg : Str → Option Value} {base : Heap} {ct : String → Addr}
theorem fn_al {x qual : Str} {st : Stmt} {f : Addr} {fd : FuncData} {N ps : List Str} {k : Nat} {body : Addr → S} {D : Addr} {b : Bool} (F : L2.Fun K x qual st f fd) (sc : FnScope N ps (defScope st)) (h1 : ps.length = 1) (hn : 1 ≤ N.length)
    (hb : ∀ (cdv : Value) (A : Around) (outer : List Env) (s : Shared) (H : Hp) (a : Addr) (oe : Obj), Zc (.ref D) none oe → (∃ vs, oe.data = .fields vs) →
      SSs (cxH (L2.CX P w) P w K mg base N qual (defScope st) f cdv A outer s H (fun _ _ _ => False) (a, oe)) ⟨fun _ => none, H, ct, fun _ _ _ _ => False, none⟩ (defBody st) (body a))
    (hv : ∀ a, runD N.length (body a) [.fn a] = .ok (.bl b)) : FnAl P w K mg base (k + 1) f fd ps D b := by
  obtain ⟨oc, od, kV, doc, pm, an, cdv, ct2, osl, rfl, lk, hcd⟩ := F.ex
  refine ⟨h1, fun A outer s H args us Q a oe hr hpin hz hf e0 hbd rv hq => ?_⟩
  have hl : [V.ref a].length = ps.length := h1.symm
  have KX : K.In s.heap := e0.mod.kin.keeps fun c o e => (e0.bs c o e).1
  have lim : s.heap.NoLimit := e0.mod.nolimit.keeps fun c o e => (e0.bs c o e).1
  have hkd : ∀ y ∈ ps.zip us, (defScope st).names.lookup y.1 = some .local ∨ ((defScope st).names.lookup y.1 = some .cell ∧ ((cellsFrom (s.heap.objs.size + 1) (defScope st).names []).lookup y.1).isSome = true) := fun ⟨n, v⟩ hy => (sc.par n (List.of_mem_zip hy).1).imp id fun q => ⟨q, PySem.W.cellsFrom_some _ _ _ (.inl q)⟩
  refine codeAny_call_function hr.depth (KX _ _ lk) rfl sc.co sc.gen rfl (PySem.W.codeRec_of KX hcd) (hbd _ _ _ _ ?_)
  refine wpAny_newFunctionEnv_cells sc.kind hkd fun env he s1 xx => ?_
  subst he
  refine ⟨lim.keeps xx.toInCall.keep, codeAny_func ?_⟩
  have I := inv_startH (CX := L2.CX P w) (E := fun _ _ _ => False) (cd := cdv) (qual := qual) (f := f) sc hpin e0 hl rv xx
  have sub : Same (fun _ => none : Hp) H := fun b u q => nomatch q
  have rs := re_start (K := K) (C := ⟨fun _ => none, H, ct, fun _ _ _ _ => False, none⟩) (N := N) (ds := [.fn a]) (vs := [.ref a]) (Stp.refl sub) (.cons (.fn a) .nil) (by simpa using hn)
  have hv' := hv a
  unfold runD at hv'
  refine wpAny_mono ((hb cdv A outer s H a oe hz hf).run [] s1 (L2.start N [.ref a]) H { nx := fun _ H' => Q .non H', rt := Q } I ⟨_, _, rs, ?_⟩) (fun fl s' hs => ?_) fun e s' hs => hs
  · cases e : body a (([Fs.D.fn a] : List Fs.D).map .v ++ List.replicate (N.length - ([Fs.D.fn a] : List Fs.D).length) .un) with
    | nx δ => rw [e] at hv'; cases hv'
    | rt d =>
      rw [e] at hv'
      cases hv'
      exact fun v G' H' z => by
        obtain ⟨t, r⟩ := z
        cases r
        exact hq H' t.h
    | exc e2 δ => rw [e] at hv'; cases hv'
    | bk δ => rw [e] at hv'; cases hv'
    | ct δ => rw [e] at hv'; cases hv'
    | stk => rw [e] at hv'; cases hv'
  · cases fl with
    | ret u => exact hs.elim fun v z => z.elim fun σ' z => z.elim fun H' z => ⟨v, H', z.1.os, z.1.bare, z.1.base, z.1.hok, z.2.1, z.2.2⟩
    | next => exact hs.elim fun σ' z => z.elim fun H' z => ⟨.non, H', z.1.os, z.1.bare, z.1.base, z.1.hok, rfl, z.2⟩
    | brk => exact hs.elim fun _ z => z.elim fun _ z => z.2.elim
    | cont => exact hs.elim fun _ z => z.elim fun _ z => z.2.elim
end
/-! isinstance of the exception -/
section
variable {X : Cx} {C : Cc}
theorem call_isE2 {a D : Addr} {oe : Obj} (hm : (a, oe) ∈ X.pn) (c : ExcC X.K D) (hz : Zc (.ref D) none oe) (hf : ∃ vs, oe.data = .fields vs) : CallR X (.builtin "isinstance") (rIsE X.K D a) := by
  intro pins s σ H xs us Q I r h
  obtain ⟨cc, cv, b, rfl, hcv, e, q⟩ := h
  cases r with
  | cons rx rr =>
    cases rr with
    | cons rt rr =>
      cases rr
      cases rx
      have ec := hcv _ rt
      subst ec
      have hget := (I.pin (a, oe) (List.mem_append_left _ hm)).1
      obtain ⟨vs, hv⟩ := hf
      have J : PySem.W.InstAt s.heap a oe D none := by
        obtain ⟨oc, od, oda, osl⟩ := oe
        obtain ⟨z1, z2⟩ := hz
        dsimp only at z1 z2 hv
        subst z1 z2 hv
        exact ⟨hget, rfl, rfl, trivial⟩
      exact PySem.W.kia_one (PySem.W.handS_kitx_exc c.hg c.hk c.hs c.hd c.ha c.hn c.ht c.hm) I.kIn J e (fun z => nomatch z) fun tk => ⟨.bl b, H, I.kept (t' := tk) fun _ _ z => z, rfl, q⟩
def eIsX (a : Addr) (i : Nat) (b : Bool) : E := fun δ => match δ[i]? with
  | some (.v (.fn c)) => if c = a then .ok (.bl b) else .stk
  | _ => .stk
theorem se_isX {a D : Addr} {oe : Obj} {b : Bool} {i : Nat} {x cn : Str} {p1 p2 pf pos : Pos} {cv : Value} {cV : V} (hm : (a, oe) ∈ X.pn) (c : ExcC X.K D) (hz : Zc (.ref D) none oe) (hf : ∃ vs, oe.data = .fields vs)
    (hgi : Gl X "isinstance") (hmi : X.mg "isinstance" = none) (hc : PE X (.Name cn p2) (tC cV)) (hcv : ∀ u, RelV cV u → u = cv) (hk : PySem.W.kitOne X.K (.ref D) cv = some b)
    (hN : X.N[i]? = some x := by rfl) (hv : Vis X.env.scope x := by first | exact Or.inl rfl | exact Or.inr (Or.inl rfl) | exact Or.inr (Or.inr rfl)) (hd : (x == ("__debug__" : Str)) = false := by decide) (hcd : (x == ("__classdict__" : Str)) = false := by decide)
    (hvi : bootBuiltins "isinstance" = some (.builtin "isinstance") := by decide +kernel)
    (hs : starEach [.Name x p1, .Name cn p2] X.env = (false, eval (.Name x p1) X.env) :: starEach [.Name cn p2] X.env := by rfl) (hpl : (backTo pos (starEach [.Name cn p2] X.env)).any (·.1) = false := by rfl) (hs2 : starEach [.Name cn p2] X.env = (false, eval (.Name cn p2) X.env) :: starEach [] X.env := by rfl) :
    SE X C (.Call (.Name "isinstance" pf) [.Name x p1, .Name cn p2] [] pos) (eIsX a i b) :=
  pe_weak (pe_callB (call_isE2 hm c hz hf) hgi hmi hvi (pa_cons (pe_var hN hv hd hcd) (pa_cons hc pa_nil hs2) hs) (by decide) (by decide) hs hpl) fun σ H Q ⟨δ, G, re, h⟩ => by
    unfold eIsX at h
    cases q : δ[i]? with
    | none => rw [q] at h; exact h.elim
    | some sl =>
      rw [q] at h
      cases sl with
      | un => exact h.elim
      | own xs => exact h.elim
      | bor xs => exact h.elim
      | v d =>
        cases d with
        | fn c2 =>
          simp only at h
          split at h
          · rename_i hca
            subst hca
            obtain ⟨v, e0, r0⟩ := re.val q
            cases r0
            exact ⟨_, e0, cV, cv, b, rfl, hcv, hk, onR_self re.sub h (.bl b)⟩
          · exact h.elim
        | _ => exact h.elim
end
/-! the call in the suite -/
section
variable {X : Cx} {C : Cc}
theorem pe_al {a cD : Addr} {oe : Obj} {b : Bool} {i k : Nat} {fA : Addr} {fd : FuncData} {ps : List Str} {x n : Str} {p1 q pos : Pos} (hm : (a, oe) ∈ X.pn) (hz : Zc (.ref cD) none oe) (hf : ∃ vs, oe.data = .fields vs) (Fn : FnAl X.prog X.w X.K X.mg X.base k fA fd ps cD b) (hr : RoomH k X.A)
    (hg : Gl X x) (hmg : X.mg x = some (.ref fA)) (hk : PySem.W.keepIn X.K (.ref fA) = true) (hb : Binds X.K fd ps []) (tk : Takes X (fun _ _ _ _ => False))
    (hN : X.N[i]? = some n := by rfl) (hv : Vis X.env.scope n := by first | exact Or.inl rfl | exact Or.inr (Or.inl rfl) | exact Or.inr (Or.inr rfl)) (hd : (n == ("__debug__" : Str)) = false := by decide) (hcd : (n == ("__classdict__" : Str)) = false := by decide) (hdb : (x == ("__debug__" : Str)) = false := by decide)
    (he : starEach [.Name n p1] X.env = (false, eval (.Name n p1) X.env) :: starEach [] X.env := by rfl) (hpl : (backTo pos (starEach [] X.env)).any (·.1) = false := by rfl) :
    PE X (.Call (.Name x q) [.Name n p1] [] pos) (fun σ H Q => σ[i]? = some (some (.ref a)) ∧ ∀ H', Same H H' → Q (.bl b) H') := by
  refine ⟨fun pins s σ H Q I h => ?_⟩
  have ha : PA X [.Name n p1] (tCons (tVar i) tNil) := pa_cons (pe_var hN hv hd hcd) pa_nil he
  refine wpAny_Call_Name_kw (ld_glob I hg hmg ?_ hdb)
  refine PySem.W.callWith_K (h₀ := X.base) I.ok.mod.kin hk (thn (ha.run pos pins s σ H (fun vs H1 => vs = [V.ref a] ∧ H1 = H) I ⟨_, h.1, rfl, rfl⟩) fun us s1 hh => ?_) he hpl
  obtain ⟨vs, H1, I1, rv, ev, eH⟩ := hh
  subst ev
  subst eH
  refine ⟨I1.kIn, ?_⟩
  have hl : us.length = ps.length := by rw [← rv.length, Fn.one]; rfl
  have bb := hb s1 us I1.kIn (by rw [List.append_nil]; exact hl)
  rw [List.append_nil] at bb
  have P1 := I1.pin (a, oe) (List.mem_append_left _ hm)
  have hpin : PinOk X.stack H1 s1 (a, oe) := ⟨P1.1, P1.2.1, fun z => (List.mem_cons.mp (I1.stkSub a z)).elim P1.2.2.1 P1.2.2.2.1, P1.2.2.2.2⟩
  refine wpAny_call (codeAny_mono (Fn.run X.A X.stack s1 H1 ⟨us, []⟩ us Q a oe hr hpin hz hf I1.env0 bb rv h.2) fun r s' hq => ?_)
  cases r with
  | error e => exact passAt tk σ pins H1 s1 e s' I1 hq
  | ok fl =>
    cases fl with
    | ret u => exact I1.after hq
    | next => exact hq.elim
    | brk => exact hq.elim
    | cont => exact hq.elim
def sTryAl (t al : String → Option Bool) (i j : Nat) (fb : S) : S := fun δ => match fb δ with
  | .exc e δ' => if e.fs.isEmpty = true then (match t e.cls with
    | some true => (match al e.cls with
      | some b => .nx (((δ'.set i .un).set j (.v (.bl b))).set i .un)
      | none => .stk)
    | some false => .exc e δ'
    | none => .stk) else .stk
  | r => r
theorem ss_try_al {x n : Str} {c : Addr} {t al : String → Option Bool} {i j : Nat} {body suite : List Stmt} {b₀ : Stmt} {np pos' pos : Pos} {fb : S} (hs : X.stack = X.env :: X.outer) (hf : X.env.frame = some X.env.locals) (hN : X.N.Nodup) (hi : X.N[i]? = some n) (hln : X.env.kindOf n = some .local) (hiN : i < X.N.length)
    (hc : Names X x (.ref c)) (tk : Takes X C.W) (ht : XT X.K C.ct c t)
    (hb : ∀ (W : WX) (pn : List (Addr × Obj)) (xe : Value → Shared → Prop), Takes (X.tr pn xe) W → PassesOwn (model X.prog X.w) X.A X.env xe → SSs (X.tr pn xe) { C with W := W } body fb)
    (hsu : ∀ (a : Addr) (oe : Obj) (pn : List (Addr × Obj)) (cn : String) (b : Bool), al cn = some b → Zc (.ref (C.ct cn)) none oe → (∃ vs, oe.data = .fields vs) →
      PSs (X.suite a ((a, oe) :: pn)) (b₀ :: suite) (fun Dn σ H => σ[i]? = some (some (.ref a)) ∧ ∀ H', Same H H' → Dn.nx (σ.set j (some (.bl b))) H')) :
    SS X C (.Try body [.ExceptHandler (some (.Name x np)) (some n) (b₀ :: suite) pos'] [] [] pos) (sTryAl t al i j fb) := by
  refine ⟨fun pins s σ H Dn I h => ?_⟩
  refine (ps_try_as (tb := fun W => liftS X.K { C with W := W } fb) (ts := fun a cls d => fun Dn σ H => ∃ (cn : String) (b : Bool), cls = .ref (C.ct cn) ∧ d = none ∧ al cn = some b ∧ (∃ σ0 : L2.St, σ = List.set σ0 i (some (.ref a))) ∧ ∀ H', Same H H' → Dn.nx (σ.set j (some (.bl b))) H')
    hs hf hN hi hln hc tk hb fun a oe cls d pn hz hfl => ⟨fun pins s σ H Dn I hh => by
      obtain ⟨cn, b, rfl, rfl, hal, h1, h2⟩ := hh
      have hl : σ.length = X.N.length := I.len
      refine (hsu a oe pn cn b hal hz hfl).run pins s σ H Dn I ⟨?_, h2⟩
      obtain ⟨σ0, rfl⟩ := h1
      rw [List.length_set] at hl
      rw [List.getElem?_set_self (by omega)]⟩).run pins s σ H Dn I ?_
  obtain ⟨δ, G, re, h⟩ := h
  refine ⟨δ, G, re.wish2, ?_⟩
  unfold sTryAl at h
  cases e : fb δ with
  | nx δ' => rw [e] at h; exact fun σ' G' H' re z => h σ' G' H' re.wish2 z
  | bk δ' => rw [e] at h; exact fun σ' G' H' re z => h σ' G' H' re.wish2 z
  | ct δ' => rw [e] at h; exact fun σ' G' H' re z => h σ' G' H' re.wish2 z
  | rt d => rw [e] at h; exact h
  | stk => rw [e] at h; exact h.elim
  | exc ex δ' =>
    rw [e] at h
    simp only at h
    intro cls dd σ' G' H' re' sg rx
    split at h
    · rename_i hfs
      have hfs' : ex.fs = [] := List.isEmpty_iff.mp hfs
      have hdd : dd = none := rx.2.elim (fun z => z.2) fun z => absurd hfs' z.1
      cases q : t ex.cls with
      | none => rw [q] at h; exact h.elim
      | some bb =>
        rw [q] at h
        refine ⟨bb, by rw [rx.1]; exact ht _ _ q, fun hb => ?_, fun hb => ?_⟩
        · subst hb
          intro a _
          simp only at h
          cases qa : al ex.cls with
          | none => rw [qa] at h; exact h.elim
          | some b =>
            rw [qa] at h
            refine ⟨ex.cls, b, rx.1, hdd, qa, ⟨_, rfl⟩, fun H2 sm => ?_⟩
            · have stp : Stp G' H' G' H2 := ⟨Same.refl _, sm, re'.sub.trans sm, fun _ z => .inl z⟩
              exact h _ G' H2 ((((re'.step stp).setU i (some (.ref a))).setV j (.bl b)).setU i none).wish2 sg
        · subst hb
          exact h cls dd σ' G' H' re'.wish2 sg rx
    · exact h.elim
end
end Fs
namespace Fs
open PySem L2
@[simp] theorem v_eIsX (a : Addr) (i : Nat) (b : Bool) (δ : Sl) : eIsX a i b δ = (match δ[i]? with
  | some (.v (.fn c)) => if c = a then .ok (.bl b) else .stk
  | _ => .stk) := id rfl
@[simp] theorem v_sTryAl (t al : String → Option Bool) (i j : Nat) (fb : S) (δ : Sl) : sTryAl t al i j fb δ = (match fb δ with
  | .exc e δ' => if e.fs.isEmpty = true then (match t e.cls with
    | some true => (match al e.cls with
      | some b => .nx (((δ'.set i .un).set j (.v (.bl b))).set i .un)
      | none => .stk)
    | some false => .exc e δ'
    | none => .stk) else .stk
  | r => r) := id rfl
end Fs

/-! F19: expressions that change a list that was handed in; defs that do. -/
namespace Fs
open PySem L2
abbrev E2 := Sl → R (D × Sl)
abbrev T2 := Sl → R (Bool × Sl)
abbrev A2 := Sl → R (List D × Sl)
def on2 (K : PySem.W.Frag) (C : Cc) (σ : L2.St) (G : Hp) (r : R (D × Sl)) (P : D → V → Sl → Hp → Hp → Prop) : Prop := match r with
  | .ok x => ∀ v G' H', RE K C σ x.2 G' H' → Same G G' → Rep K G' x.1 v → P x.1 v x.2 G' H'
  | .exc _ => False
  | .stk => False
def onT2 (K : PySem.W.Frag) (C : Cc) (σ : L2.St) (G : Hp) (r : R (Bool × Sl)) (P : Bool → Sl → Hp → Hp → Prop) : Prop := match r with
  | .ok x => ∀ G' H', RE K C σ x.2 G' H' → Same G G' → P x.1 x.2 G' H'
  | .exc _ => False
  | .stk => False
def onA2 (K : PySem.W.Frag) (C : Cc) (σ : L2.St) (G : Hp) (r : R (List D × Sl)) (P : List D → List V → Sl → Hp → Hp → Prop) : Prop := match r with
  | .ok x => ∀ vs G' H', RE K C σ x.2 G' H' → Same G G' → RepL K G' x.1 vs → P x.1 vs x.2 G' H'
  | .exc _ => False
  | .stk => False
def liftE2 (K : PySem.W.Frag) (C : Cc) (f : E2) : TE := fun σ H Q => ∃ δ G, RE K C σ δ G H ∧ on2 K C σ G (f δ) fun _ v _ _ H' => Q v H'
def liftT2 (K : PySem.W.Frag) (C : Cc) (f : T2) : TT := fun σ H Q => ∃ δ G, RE K C σ δ G H ∧ onT2 K C σ G (f δ) fun b _ _ H' => Q b H'
def liftA2 (K : PySem.W.Frag) (C : Cc) (f : A2) : TA := fun σ H Q => ∃ δ G, RE K C σ δ G H ∧ onA2 K C σ G (f δ) fun _ vs _ _ H' => Q vs H'
abbrev SE2 (X : Cx) (C : Cc) (e : Expr) (f : E2) : Prop := PE X e (liftE2 X.K C f)
abbrev ST2 (X : Cx) (C : Cc) (e : Expr) (f : T2) : Prop := PT X e (liftT2 X.K C f)
abbrev SA2 (X : Cx) (C : Cc) (es : List Expr) (f : A2) : Prop := PA X es (liftA2 X.K C f)
section
variable {K : PySem.W.Frag} {C : Cc} {σ : L2.St} {G H : Hp}
theorem on2_mono {r : R (D × Sl)} {P P' : D → V → Sl → Hp → Hp → Prop} (h : on2 K C σ G r P) (w : ∀ d v δ G' H', RE K C σ δ G' H' → Same G G' → Rep K G' d v → P d v δ G' H' → P' d v δ G' H') : on2 K C σ G r P' := by
  cases r with
  | ok x => exact fun v G' H' re s q => w x.1 v x.2 G' H' re s q (h v G' H' re s q)
  | exc e => exact h
  | stk => exact h
theorem onT2_mono {r : R (Bool × Sl)} {P P' : Bool → Sl → Hp → Hp → Prop} (h : onT2 K C σ G r P) (w : ∀ b δ G' H', RE K C σ δ G' H' → Same G G' → P b δ G' H' → P' b δ G' H') : onT2 K C σ G r P' := by
  cases r with
  | ok x => exact fun G' H' re s => w x.1 x.2 G' H' re s (h G' H' re s)
  | exc e => exact h
  | stk => exact h
theorem onA2_mono {r : R (List D × Sl)} {P P' : List D → List V → Sl → Hp → Hp → Prop} (h : onA2 K C σ G r P) (w : ∀ d v δ G' H', RE K C σ δ G' H' → Same G G' → RepL K G' d v → P d v δ G' H' → P' d v δ G' H') : onA2 K C σ G r P' := by
  cases r with
  | ok x => exact fun v G' H' re s q => w x.1 v x.2 G' H' re s q (h v G' H' re s q)
  | exc e => exact h
  | stk => exact h
theorem on2_22 {r : R (D × Sl)} {k : D × Sl → R (D × Sl)} {P : D → V → Sl → Hp → Hp → Prop} (h : on2 K C σ G (r.bind k) P) : on2 K C σ G r fun d _ δ' G1 _ => on2 K C σ G1 (k (d, δ')) P := by
  cases r with
  | ok x =>
    intro v G1 H1 re s q
    have h' : on2 K C σ G (k x) P := h
    show on2 K C σ G1 (k x) P
    cases e : k x with
    | ok y => rw [e] at h'; exact fun v2 G2 H2 re2 s2 q2 => h' v2 G2 H2 re2 (s.trans s2) q2
    | exc e2 => rw [e] at h'; exact h'
    | stk => rw [e] at h'; exact h'
  | exc e => exact h
  | stk => exact h
theorem on2_2T {r : R (D × Sl)} {k : D × Sl → R (Bool × Sl)} {P : Bool → Sl → Hp → Hp → Prop} (h : onT2 K C σ G (r.bind k) P) : on2 K C σ G r fun d _ δ' G1 _ => onT2 K C σ G1 (k (d, δ')) P := by
  cases r with
  | ok x =>
    intro v G1 H1 re s q
    have h' : onT2 K C σ G (k x) P := h
    show onT2 K C σ G1 (k x) P
    cases e : k x with
    | ok y => rw [e] at h'; exact fun G2 H2 re2 s2 => h' G2 H2 re2 (s.trans s2)
    | exc e2 => rw [e] at h'; exact h'
    | stk => rw [e] at h'; exact h'
  | exc e => exact h
  | stk => exact h
theorem on2_2A {r : R (D × Sl)} {k : D × Sl → R (List D × Sl)} {P : List D → List V → Sl → Hp → Hp → Prop} (h : onA2 K C σ G (r.bind k) P) : on2 K C σ G r fun d _ δ' G1 _ => onA2 K C σ G1 (k (d, δ')) P := by
  cases r with
  | ok x =>
    intro v G1 H1 re s q
    have h' : onA2 K C σ G (k x) P := h
    show onA2 K C σ G1 (k x) P
    cases e : k x with
    | ok y => rw [e] at h'; exact fun v2 G2 H2 re2 s2 q2 => h' v2 G2 H2 re2 (s.trans s2) q2
    | exc e2 => rw [e] at h'; exact h'
    | stk => rw [e] at h'; exact h'
  | exc e => exact h
  | stk => exact h
theorem onA2_AA {r : R (List D × Sl)} {k : List D × Sl → R (List D × Sl)} {P : List D → List V → Sl → Hp → Hp → Prop} (h : onA2 K C σ G (r.bind k) P) : onA2 K C σ G r fun d _ δ' G1 _ => onA2 K C σ G1 (k (d, δ')) P := by
  cases r with
  | ok x =>
    intro v G1 H1 re s q
    have h' : onA2 K C σ G (k x) P := h
    show onA2 K C σ G1 (k x) P
    cases e : k x with
    | ok y => rw [e] at h'; exact fun v2 G2 H2 re2 s2 q2 => h' v2 G2 H2 re2 (s.trans s2) q2
    | exc e2 => rw [e] at h'; exact h'
    | stk => rw [e] at h'; exact h'
  | exc e => exact h
  | stk => exact h
theorem onA2_A2 {r : R (List D × Sl)} {k : List D × Sl → R (D × Sl)} {P : D → V → Sl → Hp → Hp → Prop} (h : on2 K C σ G (r.bind k) P) : onA2 K C σ G r fun d _ δ' G1 _ => on2 K C σ G1 (k (d, δ')) P := by
  cases r with
  | ok x =>
    intro v G1 H1 re s q
    have h' : on2 K C σ G (k x) P := h
    show on2 K C σ G1 (k x) P
    cases e : k x with
    | ok y => rw [e] at h'; exact fun v2 G2 H2 re2 s2 q2 => h' v2 G2 H2 re2 (s.trans s2) q2
    | exc e2 => rw [e] at h'; exact h'
    | stk => rw [e] at h'; exact h'
  | exc e => exact h
  | stk => exact h
/-- what changes nothing -/
def p2 (f : E) : E2 := fun δ => (f δ).bind fun d => .ok (d, δ)
def pT2 (f : T) : T2 := fun δ => (f δ).bind fun d => .ok (d, δ)
def a2 (f : As) : A2 := fun δ => (f δ).bind fun d => .ok (d, δ)
theorem on2_pure {δ : Sl} {f : E} {P : D → V → Sl → Hp → Hp → Prop} (re : RE K C σ δ G H) (h : on2 K C σ G (p2 f δ) P) : onR K C σ G H (f δ) fun d v G' H' => P d v δ G' H' := by
  unfold p2 at h
  cases e : f δ with
  | ok d => rw [e] at h; exact fun v G' H' s r => h v G' H' (re.step s) s.g r
  | exc e2 => rw [e] at h; exact h.elim
  | stk => rw [e] at h; exact h.elim
theorem onT2_pure {δ : Sl} {f : T} {P : Bool → Sl → Hp → Hp → Prop} (re : RE K C σ δ G H) (h : onT2 K C σ G (pT2 f δ) P) : onB K C σ G H (f δ) fun d G' H' => P d δ G' H' := by
  unfold pT2 at h
  cases e : f δ with
  | ok d => rw [e] at h; exact fun G' H' s => h G' H' (re.step s) s.g
  | exc e2 => rw [e] at h; exact h.elim
  | stk => rw [e] at h; exact h.elim
theorem onA2_pure {δ : Sl} {f : As} {P : List D → List V → Sl → Hp → Hp → Prop} (re : RE K C σ δ G H) (h : onA2 K C σ G (a2 f δ) P) : onA K C σ G H (f δ) fun d v G' H' => P d v δ G' H' := by
  unfold a2 at h
  cases e : f δ with
  | ok d => rw [e] at h; exact fun v G' H' s r => h v G' H' (re.step s) s.g r
  | exc e2 => rw [e] at h; exact h.elim
  | stk => rw [e] at h; exact h.elim
end
section
variable {X : Cx} {C : Cc} {pos : Pos} {a b e : Expr} {es : List Expr} {fa fb f : E2} {g : B2} {r : A2}
theorem se2_of {f : E} (h : SE X C e f) : SE2 X C e (p2 f) := pe_weak h fun σ H Q ⟨δ, G, re, h⟩ => ⟨δ, G, re, on2_pure re h⟩
theorem st2_of {f : T} (h : ST X C e f) : ST2 X C e (pT2 f) := pt_weak h fun σ H Q ⟨δ, G, re, h⟩ => ⟨δ, G, re, onT2_pure re h⟩
theorem sa2_of {f : As} (h : SA X C es f) : SA2 X C es (a2 f) := pa_weak h fun σ H Q ⟨δ, G, re, h⟩ => ⟨δ, G, re, onA2_pure re h⟩
def eBin2 (g : B2) (a b : E2) : E2 := fun δ => (a δ).bind fun x => (b x.2).bind fun y => (R.ofO (g x.1 y.1)).bind fun d => .ok (d, y.2)
theorem on2_ofO {K : PySem.W.Frag} {σ : L2.St} {G H : Hp} {o : Option D} {δ : Sl} {P : D → V → Sl → Hp → Hp → Prop} (h : on2 K C σ G ((R.ofO o).bind fun d => .ok (d, δ)) P) : ∃ d, o = some d ∧ ∀ v G' H', RE K C σ δ G' H' → Same G G' → Rep K G' d v → P d v δ G' H' := by
  cases o with
  | none => exact h.elim
  | some d => exact ⟨d, rfl, h⟩
theorem lift_bin2 {K : PySem.W.Frag} {σ : L2.St} {H : Hp} {Q : VK} (h : liftE2 K C (eBin2 g fa fb) σ H Q) : tOp (rD K g) (liftE2 K C fa) (liftE2 K C fb) σ H Q := by
  obtain ⟨δ, G, re, h⟩ := h
  refine ⟨δ, G, re, on2_mono (on2_22 h) fun d v δ1 G1 H1 re1 s1 r1 h1 => ?_⟩
  refine ⟨δ1, G1, re1, on2_mono (on2_22 h1) fun d2 v2 δ2 G2 H2 re2 s2 r2 h2 => ?_⟩
  obtain ⟨z, e, h3⟩ := on2_ofO (H := H2) h2
  exact ⟨G2, d, d2, z, e, re2.sub, r1.mono s2, r2, fun v3 G3 H3 s3 r3 => h3 v3 G3 H3 (re2.step s3) s3.g r3⟩
theorem se2_bin {op : Operator} (ho : OpR X (binaryOp op) (rD X.K g)) (ha : SE2 X C a fa) (hb : SE2 X C b fb) : SE2 X C (.BinOp a op b pos) (eBin2 g fa fb) :=
  pe_weak (pe_op ho ha hb) fun σ H Q h => lift_bin2 h
theorem se2_cmp {op : CmpOp} (ho : OpR X (compareOp op) (rD X.K g)) (ha : SE2 X C a fa) (hb : SE2 X C b fb) (hm : behindInMarks op b = false := by first | exact nomark _ | rfl) : SE2 X C (.Compare a [op] [b] pos) (eBin2 g fa fb) :=
  pe_weak (pe_cmpR ho ha hb hm) fun σ H Q h => lift_bin2 h
theorem se2_ix (ha : SE2 X C a fa) (hb : SE2 X C b fb) (hs : PlainIx b := by intro _ _; rfl) : SE2 X C (.Subscript a b pos) (eBin2 gIx fa fb) := pe_weak (pe_ix x_ix ha hb hs) fun σ H Q h => lift_bin2 h
def tV2 (f : E2) : T2 := fun δ => (f δ).bind fun x => match x.1 with
  | .bl b => .ok (b, x.2)
  | _ => .stk
theorem lift_test2 {K : PySem.W.Frag} {f : E2} {σ : L2.St} {H : Hp} {Q : Bool → Hp → Prop} (h : liftT2 K C (tV2 f) σ H Q) : liftE2 K C f σ H fun v H' => ∃ k, v = .bl k ∧ Q k H' := by
  obtain ⟨δ, G, re, h⟩ := h
  refine ⟨δ, G, re, on2_mono (on2_2T h) fun d v δ1 G1 H1 re1 s1 r1 h1 => ?_⟩
  cases r1 with
  | bl k => exact ⟨k, rfl, h1 G1 H1 re1 (Same.refl _)⟩
  | non => exact h1.elim
  | int i => exact h1.elim
  | str x => exact h1.elim
  | fn x => exact h1.elim
  | dct p l q => exact h1.elim
  | tup p q => exact h1.elim
  | lst p q => exact h1.elim
theorem st2_cmp {op : CmpOp} (ho : OpR X (compareOp op) (rD X.K g)) (ha : SE2 X C a fa) (hb : SE2 X C b fb) (hm : behindInMarks op b = false := by first | exact nomark _ | rfl) : ST2 X C (.Compare a [op] [b] pos) (tV2 (eBin2 g fa fb)) := by
  refine ⟨fun pins s σ H Q I h => ?_⟩
  refine (pt_cmpR ho ha hb hm).run pins s σ H Q I ?_
  have z := lift_bin2 (Q := fun v H' => ∃ k, v = .bl k ∧ Q k H') (lift_test2 h)
  exact z
theorem st2_val (h : SE2 X C e f) (he : ∀ whole, isTrue e X.env whole = (do let v ← whole; standAt e.pos; holding [v] (truthy v)) := by intro _; rfl) : ST2 X C e (tV2 f) :=
  pt_weak (pt_val h he) fun σ H Q z => lift_test2 z
def tNt2 (f : T2) : T2 := fun δ => (f δ).bind fun x => .ok (!x.1, x.2)
theorem st2_not {ft : T2} (h : ST2 X C a ft) : ST2 X C (.UnaryOp .Not a pos) (tNt2 ft) := pt_weak (pt_not h) fun σ H Q ⟨δ, G, re, h⟩ => by
  refine ⟨δ, G, re, ?_⟩
  unfold tNt2 at h
  cases z : ft δ with
  | ok x => rw [z] at h; exact h
  | exc e2 => rw [z] at h; exact h.elim
  | stk => rw [z] at h; exact h.elim
/-! ### arguments, displays -/
def aCons2 (f : E2) (r : A2) : A2 := fun δ => (f δ).bind fun x => (r x.2).bind fun xs => .ok (x.1 :: xs.1, xs.2)
theorem sa2_cons (ha : SE2 X C e f) (hr : SA2 X C es r) (hs : starEach (e :: es) X.env = (false, eval e X.env) :: starEach es X.env := by rfl) : SA2 X C (e :: es) (aCons2 f r) :=
  pa_weak (pa_cons ha hr hs) fun σ H Q ⟨δ, G, re, h⟩ => ⟨δ, G, re, on2_mono (on2_2A h) fun d v δ1 G1 H1 re1 s1 r1 h1 =>
    ⟨δ1, G1, re1, onA2_mono (onA2_AA h1) fun ds vs δ2 G2 H2 re2 s2 r2 h2 => h2 (v :: vs) G2 H2 re2 (Same.refl _) (.cons (r1.mono s2) r2)⟩⟩
def eTup2 (r : A2) : E2 := fun δ => (r δ).bind fun x => if x.1.length ≤ sizeLine then .ok (.tup x.1, x.2) else .stk
theorem se2_tup {k : Nat} (h : SA2 X C es r) : SE2 X C (.Tuple es k pos) (eTup2 r) := pe_weak (pe_tup h) fun σ H Q ⟨δ, G, re, h⟩ =>
  ⟨δ, G, re, onA2_mono (onA2_A2 h) fun ds vs δ1 G1 H1 re1 s1 r1 h1 => by
    have hl := r1.length
    by_cases z : ds.length ≤ sizeLine
    · rw [if_pos z] at h1
      refine ⟨by omega, fun p hp => ?_⟩
      have st := Stp.new re1.sub hp (.tup vs)
      exact h1 (.ref p) (upd G1 p (.tup vs)) _ (re1.step st) st.g (.tup (SqT.of upd_same) (r1.mono st.g))
    · rw [if_neg z] at h1
      exact h1.elim⟩
/-! ### the changed list -/
def Slot.items : Slot → Option (List D)
  | .own xs => some xs
  | .bor xs => some xs
  | _ => none
def Slot.put : Slot → List D → Slot
  | .own _, ys => .own ys
  | .bor _, ys => .bor ys
  | s, _ => s
theorem RE.anyd {K : PySem.W.Frag} {σ : L2.St} {δ : Sl} {G H : Hp} {i : Nat} {s : Slot} {xs : List D} (r : RE K C σ δ G H) (h : δ[i]? = some s) (hx : s.items = some xs) :
    ∃ p vs, σ[i]? = some (some (.ref p)) ∧ C.H0 p = none ∧ G p = none ∧ H p = some (.lst vs) ∧ RepL K G xs vs := by
  cases s with
  | own ys => cases hx; exact r.ownd h
  | bor ys =>
    cases hx
    obtain ⟨p, vs, _, q⟩ := r.bord h
    exact ⟨p, vs, q⟩
  | un => cases hx
  | v d => cases hx
theorem RE.mutA {K : PySem.W.Frag} {σ : L2.St} {δ : Sl} {G H : Hp} {s : Slot} {xs ys : List D} {us : List V} {p : Addr} (r : RE K C σ δ G H) (i : Nat) (hi : δ[i]? = some s) (hx : s.items = some xs) (hp : σ[i]? = some (some (.ref p))) (h : RepL K G ys us) :
    RE K C σ (δ.set i (s.put ys)) G (upd H p (.lst us)) := by
  cases s with
  | own zs => exact r.mutO i hi hp h
  | bor zs => exact r.mutB i hi hp h
  | un => cases hx
  | v d => cases hx
/-- a call has changed the list at p, and nothing else that stood -/
structure Cal (G H G' H' : Hp) (p : Addr) : Prop where
  g : Same G G'
  h : ∀ a o, a ≠ p → H a = some o → H' a = some o
  sub : Same G' H'
  nw : ∀ a, G' a ≠ none → G a ≠ none ∨ H a = none
  gp : G' p = none
theorem RE.cal {K : PySem.W.Frag} {σ : L2.St} {δ : Sl} {G H G' H' : Hp} {s : Slot} {xs ys : List D} {us : List V} {p : Addr} (r : RE K C σ δ G H) (i : Nat) (hi : δ[i]? = some s) (hx : s.items = some xs) (hp : σ[i]? = some (some (.ref p)))
    (c : Cal G H G' H' p) (hu : H' p = some (.lst us)) (h : RepL K G' ys us) : RE K C σ (δ.set i (s.put ys)) G' H' := by
  obtain ⟨p', vs, e, h0, g0, hh, r0⟩ := r.anyd hi hx
  rw [hp] at e
  cases e
  -- first as a step to a heap where the list stands as it was
  have st : Stp G H G' (upd H' p (.lst vs)) := by
    refine ⟨c.g, fun a o ho => ?_, fun a o ho => ?_, c.nw⟩
    · by_cases e : a = p
      · subst e
        rw [upd_same, ← hh]
        exact ho
      · rw [upd_ne e]
        exact c.h a o e ho
    · by_cases e : a = p
      · subst e
        rw [c.gp] at ho
        cases ho
      · rw [upd_ne e]
        exact c.sub a o ho
  have r2 := (r.step st).mutA i hi hx hp h
  have e : upd (upd H' p (.lst vs)) p (.lst us) = H' := by
    funext a
    by_cases e : a = p
    · subst e
      rw [upd_same, hu]
    · rw [upd_ne e, upd_ne e]
  rw [e] at r2
  exact r2
/-- x.pop(0) -/
def ePop0 (i : Nat) : E2 := fun δ => match δ[i]? with
  | some s => (match s.items with
    | some (x :: xs) => .ok (x, δ.set i (s.put xs))
    | _ => .stk)
  | none => .stk
theorem se2_pop0 (i : Nat) {x : Str} {z : Expr} {p1 p2 p3 : Pos} (hz : PE X z (tC (.int 0))) (hN : X.N[i]? = some x := by rfl) (hv : Vis X.env.scope x := by first | exact Or.inl rfl | exact Or.inr (Or.inl rfl) | exact Or.inr (Or.inr rfl)) (hd : (x == ("__debug__" : Str)) = false := by decide)
    (hcd : (x == ("__classdict__" : Str)) = false := by decide)
    (hbase : attributeBase (.Name x p1) "pop" X.env (eval (.Name x p1) X.env) = eval (.Name x p1) X.env := by rfl)
    (hfew : ((backTo p3 (starEach [z] X.env)).all (fun x => !x.1) && (backToKw p3 (keywordEach [] X.env)).all (fun x => x.1.isSome)
      && decide ([z].length + ([] : List Keyword).length + (if ([] : List Keyword).isEmpty then 0 else 1) < 30)) = true := by rfl)
    (hline : (p2.endLine == p3.line) = true := by rfl) (hst : starEach [z] X.env = (false, eval (z) X.env) :: starEach [] X.env := by rfl) (hpl : (backTo p3 (starEach [] X.env)).any (·.1) = false := by rfl) :
    SE2 X C (.Call (.Attribute (.Name x p1) "pop" p2) [z] [] p3) (ePop0 i) :=
  pe_weak (pe_bm PySem.F.plainAttrs_list PySem.F.slot_list_pop PySem.F.type_list_pop mt_popAt (pe_var hN hv hd hcd) (pa_cons hz pa_nil hst) hbase hfew hline hst hpl) fun σ H Q ⟨δ, G, re, h⟩ => by
    unfold ePop0 at h
    cases q : δ[i]? with
    | none => rw [q] at h; exact h.elim
    | some s =>
      rw [q] at h
      simp only at h
      cases zi : s.items with
      | none => rw [zi] at h; exact h.elim
      | some ys =>
        rw [zi] at h
        cases ys with
        | nil => exact h.elim
        | cons y ys =>
          obtain ⟨p, vs, e0, h0, g0, hh, r0⟩ := re.anyd q zi
          cases r0 with
          | @cons _ v _ us r1 r2 =>
            refine ⟨.ref p, e0, .inl ⟨rfl, _, SqL.of hh⟩, ?_⟩
            refine ⟨p, v :: us, 0, 0, v, rfl, rfl, hh, by decide, by decide, ?_, rfl, ?_⟩
            · simp [seqIndex?]
            · exact h v G _ (re.mutA i q zi e0 r2) (Same.refl _) r1
/-! ### defs that change the list that is handed in first -/
def spB (K : PySem.W.Frag) (_ct : String → Addr) (n : Nat) (F : List D → List D → R (D × List D)) : Sp := fun vs H Q E => ∃ G p us xs ds vs', vs = .ref p :: vs' ∧ ds.length = n ∧ Same G H ∧ G p = none ∧ H p = some (.lst us) ∧ RepL K G xs us ∧ RepL K G ds vs' ∧ match F xs ds with
  | .ok x => ∀ v G' H' us', Cal G H G' H' p → H' p = some (.lst us') → RepL K G' x.2 us' → Rep K G' x.1 v → Q v H'
  | .exc _ => False
  | .stk => False
def runB (N : Nat) (body : S) (xs ds : List D) : R (D × List D) := match body (.bor xs :: (ds.map .v ++ List.replicate (N - 1 - ds.length) .un)) with
  | .rt (.tup [d, .lst ys]) => .ok (d, ys)
  | _ => .stk
theorem re_startB {K : PySem.W.Frag} {W : WX} {ct : String → Addr} {G H : Hp} {p : Addr} {us : List V} {xs ds : List D} {vs : List V} {N : List Str} (s : Same G H) (gp : G p = none) (hp : H p = some (.lst us)) (rx : RepL K G xs us) (r : RepL K G ds vs) (hn : ds.length + 1 ≤ N.length) :
    RE K ⟨G, delH H p, ct, W, some p⟩ (L2.start N (.ref p :: vs)) (.bor xs :: (ds.map .v ++ List.replicate (N.length - 1 - ds.length) .un)) G H := by
  have hl := r.length
  refine ⟨⟨Same.refl _, fun a o ho => ?_, s, fun a ha => .inl ha⟩, by simp [L2.start]; omega, fun i sl hs => ?_, fun i j sl t q hij hs ht os ot => ?_⟩
  · have ho' : delH H p a = some o := ho
    unfold delH at ho'
    split at ho'
    · cases ho'
    · exact ho'
  · cases i with
    | zero =>
      simp only [List.getElem?_cons_zero, Option.some.injEq] at hs
      subst hs
      refine ⟨p, us, rfl, by simp [L2.start], ?_, gp, hp, rx⟩
      show delH H p p = none
      unfold delH
      rw [if_pos rfl]
    | succ i =>
      rw [List.getElem?_cons_succ] at hs
      have e : (L2.start N (.ref p :: vs))[i + 1]? = (vs.map some ++ List.replicate (N.length - (vs.length + 1)) none)[i]? := by simp [L2.start]
      rw [e]
      by_cases h : i < ds.length
      · rw [List.getElem?_append_left (by simpa using h)] at hs
        rw [List.getElem?_append_left (by simp; omega)]
        obtain ⟨v, e1, r1⟩ := r.get (List.getElem?_eq_getElem h)
        rw [List.getElem?_map, List.getElem?_eq_getElem h] at hs
        rw [List.getElem?_map, e1]
        cases hs
        exact ⟨v, rfl, r1⟩
      · rw [List.getElem?_append_right (by simpa using h)] at hs
        rw [List.getElem?_replicate] at hs
        split at hs
        · cases hs
          trivial
        · exact nomatch hs
  · exfalso
    have none : ∀ {k : Nat} {s : Slot}, (Slot.bor xs :: (ds.map Slot.v ++ List.replicate (N.length - 1 - ds.length) Slot.un))[k]? = some s → s.isOwn = true → k = 0 := fun {k s} hk os => by
      cases k with
      | zero => rfl
      | succ k =>
        rw [List.getElem?_cons_succ] at hk
        by_cases h : k < ds.length
        · rw [List.getElem?_append_left (by simpa using h), List.getElem?_map, List.getElem?_eq_getElem h] at hk
          cases hk
          cases os
        · rw [List.getElem?_append_right (by simpa using h), List.getElem?_replicate] at hk
          split at hk
          · cases hk
            cases os
          · exact nomatch hk
    have e1 := none hs os
    have e2 := none ht ot
    omega
end
section
variable {P : Program} {w : World} {K : PySem.W.Frag} {mg : Str → Option Value} {base : Heap} {ct : String → Addr}
theorem fn_okB {x qual : Str} {st : Stmt} {f : Addr} {fd : FuncData} {N ps : List Str} {k n : Nat} {body : S} (F : L2.Fun K x qual st f fd) (sc : FnScope N ps (defScope st)) (hps : ps.length = n + 1) (hn : ps.length ≤ N.length)
    (hb : ∀ (cdv : Value) (A : Around) (outer : List Env) (s : Shared) (H G : Hp) (p : Addr) (E : XK), Room k (A.deeper (PyProof.Rows.envOfC qual (defScope st) s.heap.objs.size f cdv)) →
      SSs (cxOf (L2.CX P w) P w K mg base N qual (defScope st) f cdv A outer s H E) ⟨G, delH H p, ct, fun cls d _ H => E cls d H, some p⟩ (defBody st) body) :
    FnOk P w K mg base (L2.CX P w) (k + 1) f fd ps (spB K ct n (runB N.length body)) := by
  refine F.okX sc (fun vs H Q E ⟨G, p, us, xs, ds, vs', e, l, s, gp, hp, rx, r, _⟩ => by rw [e, hps, ← l, r.length]; rfl) (fun cdv A outer s H vs Q E hr ⟨G, p, us, xs, ds, vs', e, l, sub, gp, hp, rx, r, h⟩ => ⟨_, hb cdv A outer s H G p E hr, ?_⟩)
  subst e
  have rs : RE K ⟨G, delH H p, ct, fun cls d _ H => E cls d H, some p⟩ (L2.start N (.ref p :: vs')) (.bor xs :: (ds.map Slot.v ++ List.replicate (N.length - 1 - ds.length) Slot.un)) G H := re_startB sub gp hp rx r (by omega)
  refine ⟨_, G, rs, ?_⟩
  unfold runB at h
  show onS K _ G (body (.bor xs :: (ds.map .v ++ List.replicate (N.length - 1 - ds.length) .un))) _
  have cal : ∀ {G' H' : Hp}, Stp G (delH H p) G' H' → G' p = none → Cal G H G' H' p := fun {G' H'} st gp' => by
    refine ⟨st.g, fun a o ha ho => st.h a o ?_, st.sub, fun a ha => ?_, gp'⟩
    · unfold delH
      rw [if_neg ha]
      exact ho
    · rcases st.nw a ha with z | z
      · exact .inl z
      · unfold delH at z
        split at z
        · rename_i e
          subst e
          exact absurd gp' ha
        · exact .inr z
  cases e : body (.bor xs :: (ds.map .v ++ List.replicate (N.length - 1 - ds.length) .un)) with
  | rt d =>
    rw [e] at h
    intro v G' H' z
    obtain ⟨d0, ys, us', rfl, st, r0, g0, hu, ry⟩ := z
    exact h v G' H' us' (cal st g0) hu ry r0
  | nx δ => rw [e] at h; exact h.elim
  | exc e2 δ => rw [e] at h; exact h.elim
  | bk δ => rw [e] at h; exact h.elim
  | ct δ => rw [e] at h; exact h.elim
  | stk => rw [e] at h; exact h.elim
theorem fn_zeroB {f : Addr} {fd : FuncData} {ps : List Str} {n : Nat} (hps : ps.length = n + 1) : FnOk P w K mg base (L2.CX P w) 0 f fd ps (spB K ct n fun _ _ => .stk) :=
  ⟨fun vs H Q E ⟨G, p, us, xs, ds, vs', e, l, s, gp, hp, rx, r, h⟩ => h.elim, fun A outer s H args us vs Q E _ _ _ _ ⟨G, p, us', xs, ds, vs', e, l, s2, gp, hp, rx, r, h⟩ => h.elim⟩
end
end Fs

/-! F20: calls of defs that change a list; statements over such expressions. -/
namespace Fs
open PySem L2
def eCall2 (i : Nat) (F : List D → List D → R (D × List D)) (a : As) : E2 := fun δ => (a2 a δ).bind fun ds => match δ[i]? with
  | some s => (match s.items with
    | some xs => (match F xs ds.1 with
      | .ok x => .ok (x.1, δ.set i (s.put x.2))
      | _ => .stk)
    | none => .stk)
  | none => .stk
def eCallF (fr : Fr) (F : List D → List D → R (D × List D)) (a : As) : E := fun δ => (fr δ).bind fun xs => (a δ).bind fun ds => match F xs ds with
  | .ok x => .ok x.1
  | _ => .stk
section
variable {X : Cx} {C : Cc} {pos p p1 : Pos} {x y : Str} {e : Expr} {es : List Expr} {fa : As} {k n : Nat} {f : Addr} {fd : FuncData} {ps : List Str} {F : List D → List D → R (D × List D)}
theorem se2_call (i : Nat) (hF : FnOk X.prog X.w X.K X.mg X.base (L2.CX X.prog X.w) k f fd ps (spB X.K C.ct n F)) (hr : Room k X.A) (tk : Takes X C.W) (hg : Gl X x) (hm : X.mg x = some (.ref f)) (hk : PySem.W.keepIn X.K (.ref f) = true) (hb : Binds X.K fd ps [])
    (ha : SA X C es fa) (hl : LenA fa n) (hN : X.N[i]? = some y := by rfl) (hv : Vis X.env.scope y := by first | exact Or.inl rfl | exact Or.inr (Or.inl rfl) | exact Or.inr (Or.inr rfl)) (hd : (y == ("__debug__" : Str)) = false := by decide)
    (hcd : (y == ("__classdict__" : Str)) = false := by decide) (hdb : (x == ("__debug__" : Str)) = false := by decide)
    (he : starEach (.Name y p1 :: es) X.env = (false, eval (.Name y p1) X.env) :: starEach es X.env := by rfl) (hpl : (backTo pos (starEach es X.env)).any (·.1) = false := by rfl) :
    SE2 X C (.Call (.Name x p) (.Name y p1 :: es) [] pos) (eCall2 i F fa) :=
  pe_weak (pe_callS hF hr hg hm hk hb (fun σ => passAt tk σ) (pa_cons (pe_var hN hv hd hcd) ha he) hdb he hpl) fun σ H Q ⟨δ, G, re, h⟩ => by
    unfold eCall2 a2 at h
    cases z : fa δ with
    | exc e2 => rw [z] at h; exact h.elim
    | stk => rw [z] at h; exact h.elim
    | ok ds =>
      rw [z] at h
      simp only [R.bind] at h
      cases q : δ[i]? with
      | none => rw [q] at h; exact h.elim
      | some s =>
        rw [q] at h
        simp only at h
        cases zi : s.items with
        | none => rw [zi] at h; exact h.elim
        | some xs =>
          rw [zi] at h
          simp only at h
          obtain ⟨p, us, e0, h0, g0, hh, r0⟩ := re.anyd q zi
          refine ⟨.ref p, e0, δ, G, re, ?_⟩
          rw [z]
          intro vs G1 H1 s1 r1
          have re1 := re.step s1
          obtain ⟨p', us', e0', h0', g0', hh', r0'⟩ := re1.anyd q zi
          rw [e0] at e0'
          cases e0'
          refine ⟨G1, p, us', xs, ds, vs, rfl, hl δ ds z, re1.sub, g0', hh', r0', r1, ?_⟩
          cases y : F xs ds with
          | exc e2 => rw [y] at h; exact h.elim
          | stk => rw [y] at h; exact h.elim
          | ok x =>
            rw [y] at h
            exact fun v G' H' us2 c hu ry rv => h v G' H' (re1.cal i q zi e0 c hu ry) (s1.g.trans c.g) rv
/-- the list is made for the call, and gone behind it -/
theorem se_callF {a : Expr} {fr : Fr} (hF : FnOk X.prog X.w X.K X.mg X.base (L2.CX X.prog X.w) k f fd ps (spB X.K C.ct n F)) (hr : Room k X.A) (tk : Takes X C.W) (hg : Gl X x) (hm : X.mg x = some (.ref f)) (hk : PySem.W.keepIn X.K (.ref f) = true) (hb : Binds X.K fd ps [])
    (hfr : SF X C a fr) (ha : SA X C es fa) (hl : LenA fa n) (hdb : (x == ("__debug__" : Str)) = false := by decide)
    (he : starEach (a :: es) X.env = (false, eval a X.env) :: starEach es X.env := by rfl) (hpl : (backTo pos (starEach es X.env)).any (·.1) = false := by rfl) :
    SE X C (.Call (.Name x p) (a :: es) [] pos) (eCallF fr F fa) :=
  pe_weak (pe_callS hF hr hg hm hk hb (fun σ => passAt tk σ) (pa_cons hfr ha he) hdb he hpl) fun σ H Q ⟨δ, G, re, h⟩ => by
    unfold eCallF at h
    refine ⟨δ, G, re, ?_⟩
    cases y : fr δ with
    | exc e2 => rw [y] at h; exact h
    | stk => rw [y] at h; exact h
    | ok xs =>
      rw [y] at h
      intro p us G1 H1 s1 hp g1 hh rx
      refine ⟨δ, G1, re.step s1, ?_⟩
      simp only [R.bind] at h
      cases z : fa δ with
      | exc e2 => rw [z] at h; exact onX_step h s1
      | stk => rw [z] at h; exact h.elim
      | ok ds =>
        rw [z] at h
        intro vs G2 H2 s2 r2
        have g2 : G2 p = none := by
          cases e : G2 p with
          | none => rfl
          | some o =>
            rcases s2.nw p (by rw [e]; exact fun z => nomatch z) with w | w
            · exact absurd g1 w
            · rw [hh] at w; cases w
        refine ⟨G2, p, us, xs, ds, vs, rfl, hl δ ds z, s2.sub, g2, s2.h _ _ hh, rx.mono s2.g, r2, ?_⟩
        cases w : F xs ds with
        | exc e2 => simp only [w] at h; exact h.elim
        | stk => simp only [w] at h; exact h.elim
        | ok r =>
          simp only [w] at h
          have s12 := s1.trans s2
          exact fun v G' H' us2 c hu ry rv => h v G' H' ⟨s12.g.trans c.g, fun b o hb => c.h b o (ne_of_none hb hp) (s12.h b o hb), c.sub, fun b hb => (c.nw b hb).elim (s12.nw b) fun q => .inr (s12.h.free q)⟩ rv
end
/-! ### statements -/
def sBind2 {α : Type} (r : R (α × Sl)) (k : α → Sl → RS) : RS := match r with
  | .ok x => k x.1 x.2
  | _ => .stk
section
variable {K : PySem.W.Frag} {C : Cc} {σ : L2.St} {G H : Hp} {Dn : Ends}
theorem onS_2 {r : R (D × Sl)} {k : D → Sl → RS} (h : onS K C G (sBind2 r k) Dn) : on2 K C σ G r fun d _ δ' G1 _ => onS K C G1 (k d δ') Dn := by
  cases r with
  | ok x => exact fun v G1 H1 re s q => onS_same s h
  | exc e => exact h
  | stk => exact h
theorem onS_T2 {r : R (Bool × Sl)} {k : Bool → Sl → RS} (h : onS K C G (sBind2 r k) Dn) : onT2 K C σ G r fun d δ' G1 _ => onS K C G1 (k d δ') Dn := by
  cases r with
  | ok x => exact fun G1 H1 re s => onS_same s h
  | exc e => exact h
  | stk => exact h
end
section
variable {X : Cx} {C : Cc} {pos : Pos} {e : Expr} {f : E2}
def sSet2 (i : Nat) (f : E2) : S := fun δ => sBind2 (f δ) fun d δ' => .nx (δ'.set i (.v d))
theorem ss_set2 (i : Nat) {x : Str} {pos' : Pos} (he : SE2 X C e f) (hN : X.N.Nodup) (hi : X.N[i]? = some x := by rfl) (hx : Loc X.env.scope x := by first | exact Or.inl rfl | exact Or.inr rfl) (hs : swapsWith e (some (.Name x pos')) pos.line X.env = pure false := by rfl)
    (hf : X.fn x = true ∨ X.env.scope.names.lookup x = some .local := by first | exact Or.inr rfl | exact Or.inl rfl) : SS X C (.Assign [.Name x pos'] e pos) (sSet2 i f) := ps_weak (ps_set hN hi hx he hs hf) fun Dn σ H ⟨δ, G, re, h⟩ =>
  ⟨δ, G, re, on2_mono (onS_2 h) fun d v δ1 G1 H1 re1 s1 r1 h1 => h1 (σ.set i (some v)) G1 H1 (re1.setV i r1) (Same.refl _)⟩
def sAsg2 (p : Pt) (f : E2) : S := fun δ => sBind2 (f δ) fun d δ' => sBindP p d δ'
theorem ss_asg2 {tg : Expr} {p : Pt} (he : SE2 X C e f) (hg : SG X C tg p) (hs : swapsWithSole [tg] e pos.line X.env = pure false := by rfl) (hw : swappedStores [tg] e X.env = pure none := by rfl)
    (h1 : (assignEach [tg] X.env).map (·.2) = [assign tg X.env] := by rfl) : SS X C (.Assign [tg] e pos) (sAsg2 p f) := ps_weak (ps_asg he hg hs hw h1) fun Dn σ H ⟨δ, G, re, h⟩ =>
  ⟨δ, G, re, on2_mono (onS_2 h) fun d0 v δ1 G1 H1 re1 s1 r1 h1 => by
    unfold sBindP at h1
    cases q : bindP p d0 δ1 with
    | none => rw [q] at h1; exact h1.elim
    | some δ' => rw [q] at h1; exact ⟨d0, δ1, G1, δ', re1, r1, q, fun σ' re' _ => h1 σ' G1 H1 re' (Same.refl _)⟩⟩
def sRet2 (f : E2) : S := fun δ => sBind2 (f δ) fun d _ => .rt d
theorem ss_ret2 (he : SE2 X C e f) (hC : C.bor = none := by rfl) : SS X C (.Return (some e) pos) (sRet2 f) := ps_weak (ps_ret he) fun Dn σ H ⟨δ, G, re, h⟩ =>
  ⟨δ, G, re, on2_mono (onS_2 h) fun d v δ1 G1 H1 re1 s1 r1 h1 => h1 v G1 H1 (RT.of hC re1.st r1)⟩
/-- return, in a def that changes the list at slot i -/
def sRetB (i : Nat) (f : E2) : S := fun δ => sBind2 (f δ) fun d δ' => match δ'[i]? with
  | some (.bor xs) => .rt (.tup [d, .lst xs])
  | _ => .stk
theorem ss_retB (i : Nat) (he : SE2 X C e f) : SS X C (.Return (some e) pos) (sRetB i f) := ps_weak (ps_ret he) fun Dn σ H ⟨δ, G, re, h⟩ =>
  ⟨δ, G, re, on2_mono (onS_2 h) fun d v δ1 G1 H1 re1 s1 r1 h1 => by
    cases q : δ1[i]? with
    | none => rw [q] at h1; exact h1.elim
    | some s =>
      rw [q] at h1
      cases s with
      | un => exact h1.elim
      | v d => exact h1.elim
      | own xs => exact h1.elim
      | bor xs =>
        obtain ⟨p, us, hb, e0, h0, g0, hh, r0⟩ := re1.bord q
        refine h1 v G1 H1 ?_
        unfold RT
        rw [hb]
        exact ⟨d, xs, us, rfl, re1.st, r1, g0, hh, r0⟩⟩
def sIf2 (t : T2) (a b : S) : S := fun δ => sBind2 (t δ) fun k δ' => if k = true then a δ' else b δ'
theorem ss_if2 {c : Expr} {a b : List Stmt} {t : T2} {fa fb : S} (hc : ST2 X C c t) (ha : SSs X C a fa) (hb : SSs X C b fb) : SS X C (.If c a b pos) (sIf2 t fa fb) := ps_weak (ps_if hc ha hb) fun Dn σ H ⟨δ, G, re, h⟩ => by
  refine ⟨δ, G, re, onT2_mono (onS_T2 h) fun k δ1 G1 H1 re1 s1 h1 => ?_⟩
  cases k with
  | true => exact ⟨δ1, G1, re1, h1⟩
  | false => exact ⟨δ1, G1, re1, h1⟩
def sDrop2 (f : E2) : S := fun δ => sBind2 (f δ) fun _ δ' => .nx δ'
theorem ss_expr2 (he : SE2 X C e f) (hs : swapsWith e none pos.line X.env = pure false := by rfl) : SS X C (.Expr e pos) (sDrop2 f) := ps_weak (ps_expr he hs) fun Dn σ H ⟨δ, G, re, h⟩ =>
  ⟨δ, G, re, on2_mono (onS_2 h) fun d v δ1 G1 H1 re1 s1 r1 h1 => h1 σ G1 H1 re1 (Same.refl _)⟩
/-- x.append(e) of the own list at x, where e changes another one -/
def sApp2 (i : Nat) (f : E2) : S := fun δ => match δ[i]? with
  | some (.own _) => sBind2 (f δ) fun d δ' => (match δ'[i]? with
    | some (.own xs) => if xs.length < sizeLine then .nx (δ'.set i (.own (xs ++ [d]))) else .stk
    | _ => .stk)
  | _ => .stk
theorem ss_app2 (i : Nat) {x : Str} {p1 p2 p3 : Pos} {a : Expr} (ha : SE2 X C a f) (hN : X.N[i]? = some x := by rfl) (hv : Vis X.env.scope x := by first | exact Or.inl rfl | exact Or.inr (Or.inl rfl) | exact Or.inr (Or.inr rfl)) (hd : (x == ("__debug__" : Str)) = false := by decide)
    (hcd : (x == ("__classdict__" : Str)) = false := by decide) (hs : swapsWith (.Call (.Attribute (.Name x p1) "append" p2) [a] [] p3) none pos.line X.env = pure false := by rfl)
    (hbase : attributeBase (.Name x p1) "append" X.env (eval (.Name x p1) X.env) = eval (.Name x p1) X.env := by rfl)
    (hfew : ((backTo p3 (starEach [a] X.env)).all (fun x => !x.1) && (backToKw p3 (keywordEach [] X.env)).all (fun x => x.1.isSome)
      && decide ([a].length + ([] : List Keyword).length + (if ([] : List Keyword).isEmpty then 0 else 1) < 30)) = true := by rfl)
    (hline : (p2.endLine == p3.line) = true := by rfl) (hst : starEach [a] X.env = (false, eval a X.env) :: starEach [] X.env := by rfl) (hpl : (backTo p3 (starEach [] X.env)).any (·.1) = false := by rfl) :
    SS X C (.Expr (.Call (.Attribute (.Name x p1) "append" p2) [a] [] p3) pos) (sApp2 i f) :=
  ps_weak (ps_expr (pe_bm PySem.F.plainAttrs_list PySem.F.slot_list_append PySem.F.type_list_append mt_append (pe_var hN hv hd hcd) (pa_cons ha pa_nil hst) hbase hfew hline hst hpl) hs) fun Dn σ H ⟨δ, G, re, h⟩ => by
    unfold sApp2 at h
    cases q : δ[i]? with
    | none => rw [q] at h; exact h.elim
    | some sl =>
      rw [q] at h
      cases sl with
      | un => exact h.elim
      | v d => exact h.elim
      | bor xs => exact h.elim
      | own xs =>
        obtain ⟨p, vs, e0, h0, g0, hh, r0⟩ := re.ownd q
        refine ⟨.ref p, e0, .inl ⟨rfl, vs, SqL.of hh⟩, δ, G, re, on2_mono (onS_2 h) fun d v δ1 G1 H1 re1 s1 r1 h1 => ?_⟩
        cases q1 : δ1[i]? with
        | none => rw [q1] at h1; exact h1.elim
        | some sl =>
          rw [q1] at h1
          cases sl with
          | un => exact h1.elim
          | v d => exact h1.elim
          | bor xs => exact h1.elim
          | own ys =>
            obtain ⟨p', vs', e0', h0', g0', hh', r0'⟩ := re1.ownd q1
            rw [e0] at e0'
            cases e0'
            simp only at h1
            split at h1
            · rename_i hz
              have hl := r0'.length
              exact ⟨p, vs', v, rfl, rfl, hh', by omega, h1 σ G1 _ (re1.mutO i q1 e0 (r0'.append (RepL.one r1))) (Same.refl _)⟩
            · exact h1.elim
end
/-! ### how they are reckoned -/
@[simp] theorem v_p2 (f : E) (δ : Sl) : p2 f δ = (f δ).bind fun d => .ok (d, δ) := id rfl
@[simp] theorem v_pT2 (f : T) (δ : Sl) : pT2 f δ = (f δ).bind fun d => .ok (d, δ) := id rfl
@[simp] theorem v_a2 (f : As) (δ : Sl) : a2 f δ = (f δ).bind fun d => .ok (d, δ) := id rfl
@[simp] theorem v_eBin2 (g : B2) (a b : E2) (δ : Sl) : eBin2 g a b δ = (a δ).bind fun x => (b x.2).bind fun y => (R.ofO (g x.1 y.1)).bind fun d => .ok (d, y.2) := id rfl
@[simp] theorem v_tV2 (f : E2) (δ : Sl) : tV2 f δ = (f δ).bind fun x => (match x.1 with
  | .bl b => .ok (b, x.2)
  | _ => .stk) := id rfl
@[simp] theorem v_tNt2 (f : T2) (δ : Sl) : tNt2 f δ = (f δ).bind fun x => .ok (!x.1, x.2) := id rfl
@[simp] theorem v_aCons2 (f : E2) (r : A2) (δ : Sl) : aCons2 f r δ = (f δ).bind fun x => (r x.2).bind fun xs => .ok (x.1 :: xs.1, xs.2) := id rfl
@[simp] theorem v_eTup2 (r : A2) (δ : Sl) : eTup2 r δ = (r δ).bind fun x => if x.1.length ≤ sizeLine then .ok (.tup x.1, x.2) else .stk := id rfl
@[simp] theorem v_items_own (xs : List D) : (Slot.own xs).items = some xs := id rfl
@[simp] theorem v_items_bor (xs : List D) : (Slot.bor xs).items = some xs := id rfl
@[simp] theorem v_put_own (xs ys : List D) : (Slot.own xs).put ys = .own ys := id rfl
@[simp] theorem v_put_bor (xs ys : List D) : (Slot.bor xs).put ys = .bor ys := id rfl
@[simp] theorem v_ePop0 (i : Nat) (δ : Sl) : ePop0 i δ = (match δ[i]? with
  | some s => (match s.items with
    | some (x :: xs) => .ok (x, δ.set i (s.put xs))
    | _ => .stk)
  | none => .stk) := id rfl
@[simp] theorem v_eCall2 (i : Nat) (F : List D → List D → R (D × List D)) (a : As) (δ : Sl) : eCall2 i F a δ = (a2 a δ).bind fun ds => (match δ[i]? with
  | some s => (match s.items with
    | some xs => (match F xs ds.1 with
      | .ok x => .ok (x.1, δ.set i (s.put x.2))
      | _ => .stk)
    | none => .stk)
  | none => .stk) := id rfl
@[simp] theorem v_eCallF (fr : Fr) (F : List D → List D → R (D × List D)) (a : As) (δ : Sl) : eCallF fr F a δ = (fr δ).bind fun xs => (a δ).bind fun ds => (match F xs ds with
  | .ok x => .ok x.1
  | _ => .stk) := id rfl
@[simp] theorem v_sBind2_ok {α : Type} (x : α) (δ : Sl) (k : α → Sl → RS) : sBind2 (.ok (x, δ)) k = k x δ := id rfl
@[simp] theorem v_sSet2 (i : Nat) (f : E2) (δ : Sl) : sSet2 i f δ = sBind2 (f δ) fun d δ' => .nx (δ'.set i (.v d)) := id rfl
@[simp] theorem v_sAsg2 (p : Pt) (f : E2) (δ : Sl) : sAsg2 p f δ = sBind2 (f δ) fun d δ' => sBindP p d δ' := id rfl
@[simp] theorem v_sRet2 (f : E2) (δ : Sl) : sRet2 f δ = sBind2 (f δ) fun d _ => .rt d := id rfl
@[simp] theorem v_sRetB (i : Nat) (f : E2) (δ : Sl) : sRetB i f δ = sBind2 (f δ) fun d δ' => (match δ'[i]? with
  | some (.bor xs) => .rt (.tup [d, .lst xs])
  | _ => .stk) := id rfl
@[simp] theorem v_sIf2 (t : T2) (a b : S) (δ : Sl) : sIf2 t a b δ = sBind2 (t δ) fun k δ' => if k = true then a δ' else b δ' := id rfl
@[simp] theorem v_sDrop2 (f : E2) (δ : Sl) : sDrop2 f δ = sBind2 (f δ) fun _ δ' => .nx δ' := id rfl
@[simp] theorem v_sApp2 (i : Nat) (f : E2) (δ : Sl) : sApp2 i f δ = (match δ[i]? with
  | some (.own _) => sBind2 (f δ) fun d δ' => (match δ'[i]? with
    | some (.own xs) => if xs.length < sizeLine then .nx (δ'.set i (.own (xs ++ [d]))) else .stk
    | _ => .stk)
  | _ => .stk) := id rfl
theorem runB_rt {N : Nat} {body : S} {xs ds ys : List D} {d : D} (h : body (.bor xs :: (ds.map .v ++ List.replicate (N - 1 - ds.length) .un)) = .rt (.tup [d, .lst ys])) : runB N body xs ds = .ok (d, ys) := by
  unfold runB
  rw [h]
end Fs

/-! F21: constants of the module. -/
namespace Fs
open PySem L2
/-- the module's name x stands for the data d -/
def KC (K : PySem.W.Frag) (mg : Str → Option Value) (x : Str) (d : D) : Prop := ∃ v u, mg x = some u ∧ RelV v u ∧ ∀ G, Rep K G d v
theorem se_con {X : Cx} {C : Cc} {x : Str} {d : D} {pos : Pos} (h : KC X.K X.mg x d) (hg : Gl X x := by rfl) (hd : (x == ("__debug__" : Str)) = false := by decide) : SE X C (.Name x pos) (eC d) := by
  obtain ⟨v, u, hm, r, q⟩ := h
  exact pe_weak (pe_glob hg hm r hd) fun σ H Q ⟨δ, G, re, h⟩ => h v G H (Stp.refl re.sub) (q G)
theorem kc_tup {K : PySem.W.Frag} {mg : Str → Option Value} {x : Str} {ss : List Str} {a : Addr} {o : Obj} {its : Array Value} {n : Nat} (hm : mg x = some (.ref a)) (hl : K.lookup a = some o) (hc : o.cls = .type "tuple") (hd : o.data = .seq its n) (hs : its.size ≤ sizeLine) (hv : Vals (ss.map V.str) its.toList) : KC K mg x (.tup (ss.map .str)) :=
  ⟨.ref a, .ref a, hm, rfl, fun G => .tup (.inr ⟨o, its, n, hl, hc, hd, hs, hv⟩) (by
    have : ∀ ss : List Str, RepL K G (ss.map D.str) (ss.map V.str) := fun ss => by
      induction ss with
      | nil => exact .nil
      | cons s ss ih => exact .cons (.str s) ih
    exact this ss)⟩
end Fs

/-! MCh: how many sets: plain mathematics. -/
namespace MCh
def ch : Nat → Nat → Nat
  | _, 0 => 1
  | 0, _ + 1 => 0
  | n + 1, k + 1 => ch n k + ch n (k + 1)
def fac : Nat → Nat
  | 0 => 1
  | n + 1 => fac n * (n + 1)
/-- n (n - 1) .., k of them -/
def fall (n : Nat) : Nat → Nat
  | 0 => 1
  | k + 1 => fall n k * (n - k)
theorem ch_0 (n : Nat) : ch n 0 = 1 := by cases n <;> rfl
theorem ch_small : ∀ {n k : Nat}, n < k → ch n k = 0
  | 0, k + 1, _ => rfl
  | n + 1, k + 1, h => by
    show ch n k + ch n (k + 1) = 0
    rw [ch_small (by omega), ch_small (by omega)]
theorem ch_self : ∀ n : Nat, ch n n = 1
  | 0 => rfl
  | n + 1 => by
    show ch n n + ch n (n + 1) = 1
    rw [ch_self n, ch_small (by omega)]
theorem ch_abs : ∀ n k : Nat, ch n (k + 1) * (k + 1) = ch n k * (n - k)
  | 0, 0 => rfl
  | 0, k + 1 => by
    show 0 * (k + 2) = 0 * (0 - (k + 1))
    simp
  | n + 1, 0 => by
    have ih : ch n 1 * 1 = ch n 0 * n := ch_abs n 0
    rw [ch_0] at ih
    show (ch n 0 + ch n 1) * 1 = ch (n + 1) 0 * (n + 1)
    rw [ch_0, ch_0]
    omega
  | n + 1, k + 1 => by
    have i1 := ch_abs n k
    have i2 := ch_abs n (k + 1)
    show (ch n (k + 1) + ch n (k + 2)) * (k + 2) = (ch n k + ch n (k + 1)) * (n + 1 - (k + 1))
    by_cases h : k + 1 ≤ n
    · obtain ⟨r, rfl⟩ : ∃ r, n = k + 1 + r := ⟨n - (k + 1), by omega⟩
      have e1 : k + 1 + r - k = r + 1 := by omega
      have e2 : k + 1 + r - (k + 1) = r := by omega
      have e3 : k + 1 + r + 1 - (k + 1) = r + 1 := by omega
      rw [e1] at i1
      rw [e2] at i2
      rw [e3, Nat.add_mul, Nat.add_mul, i2, ← i1]
      rw [← Nat.mul_add, ← Nat.mul_add]
      congr 1
      omega
    · have z1 : ch n (k + 1) = 0 := ch_small (by omega)
      have z2 : ch n (k + 2) = 0 := ch_small (by omega)
      rw [z1, z2]
      by_cases h2 : k ≤ n
      · have e : k = n := by omega
        subst e
        simp
      · rw [ch_small (by omega : n < k)]
        simp
theorem ch_fac (n : Nat) : ∀ k : Nat, ch n k * fac k = fall n k
  | 0 => by rw [ch_0]; rfl
  | k + 1 => by
    show ch n (k + 1) * (fac k * (k + 1)) = fall n k * (n - k)
    rw [← ch_fac n k, Nat.mul_comm (fac k), ← Nat.mul_assoc, ch_abs, Nat.mul_assoc, Nat.mul_comm (n - k), ← Nat.mul_assoc]
theorem ch_symm : ∀ (s a b : Nat), a + b = s → ch s a = ch s b
  | s, 0, b, h => by
    have e : b = s := by omega
    subst e
    rw [ch_0, ch_self]
  | s, a + 1, 0, h => by
    have e : a + 1 = s := by omega
    subst e
    rw [ch_0, ch_self]
  | 0, a + 1, b + 1, h => by omega
  | s + 1, a + 1, b + 1, h => by
    show ch s a + ch s (a + 1) = ch s b + ch s (b + 1)
    rw [ch_symm s a (b + 1) (by omega), ch_symm s (a + 1) b (by omega), Nat.add_comm]
theorem fac_pos : ∀ n : Nat, 0 < fac n
  | 0 => Nat.one_pos
  | n + 1 => Nat.mul_pos (fac_pos n) (Nat.succ_pos n)
theorem fall_le (n : Nat) : ∀ k : Nat, fall n k ≤ n ^ k
  | 0 => Nat.le_refl _
  | k + 1 => by
    show fall n k * (n - k) ≤ n ^ (k + 1)
    rw [Nat.pow_succ]
    exact Nat.mul_le_mul (fall_le n k) (Nat.sub_le _ _)
theorem ch_le (n k : Nat) : ch n k ≤ n ^ k := by
  have h := ch_fac n k
  have h2 := fall_le n k
  have h3 := Nat.le_mul_of_pos_right (ch n k) (fac_pos k)
  omega
theorem ch_lt {n k a : Nat} (h : n < 2 ^ a) : ch n k < 2 ^ (a * k + 1) := by
  have h1 := ch_le n k
  have h2 : n ^ k ≤ (2 ^ a) ^ k := Nat.pow_le_pow_left (Nat.le_of_lt h) k
  rw [← Nat.pow_mul] at h2
  have h3 : 2 ^ (a * k) < 2 ^ (a * k + 1) := Nat.pow_lt_pow_right (by omega) (by omega)
  omega
theorem ch_div (n k : Nat) : ch n k * (n - k) / (k + 1) = ch n (k + 1) := by
  rw [← ch_abs, Nat.mul_div_cancel _ (Nat.succ_pos k)]
theorem fall_zero {n : Nat} : ∀ {k : Nat}, n < k → fall n k = 0
  | 0, h => by omega
  | k + 1, h => by
    show fall n k * (n - k) = 0
    by_cases h2 : n < k
    · rw [fall_zero h2, Nat.zero_mul]
    · rw [show n - k = 0 by omega, Nat.mul_zero]
theorem ch_absorb (n k : Nat) : ch (n + 1) (k + 1) * (k + 1) = (n + 1) * ch n k := by
  have h := ch_abs n k
  show (ch n k + ch n (k + 1)) * (k + 1) = _
  rw [Nat.add_mul, h]
  by_cases h2 : k ≤ n
  · rw [← Nat.mul_add, Nat.mul_comm (n + 1)]
    congr 1
    omega
  · rw [ch_small (by omega : n < k)]
    simp
/-- how many bags -/
def bg (n m : Nat) : Nat := ch (n + m - 1) m
theorem bg_step (n k : Nat) : bg n (k + 1) * (k + 1) = bg n k * (n + k) := by
  unfold bg
  by_cases h : n + k = 0
  · have h1 : n = 0 := by omega
    have h2 : k = 0 := by omega
    subst h1 h2
    rfl
  · obtain ⟨N, hN⟩ : ∃ N, n + k = N + 1 := ⟨n + k - 1, by omega⟩
    rw [show n + (k + 1) - 1 = N + 1 by omega, show n + k - 1 = N by omega, ch_absorb, hN, Nat.mul_comm]
theorem bg_0 (n : Nat) : bg n 0 = 1 := ch_0 _
theorem bg_div (n k : Nat) : bg n k * (n + k) / (k + 1) = bg n (k + 1) := by
  rw [← bg_step, Nat.mul_div_cancel _ (Nat.succ_pos k)]
def gd (xs : List Nat) (k : Nat) : Nat := xs.getD k 0
/-- the rank of a set, of its first k numbers -/
def rkF (xs : List Nat) : Nat → Nat
  | 0 => 0
  | k + 1 => rkF xs k + ch (gd xs k) (k + 1)
def rk (xs : List Nat) : Nat := rkF xs xs.length
theorem gd_mem {xs : List Nat} {k : Nat} (h : k < xs.length) : gd xs k ∈ xs := by
  simp [gd, List.getD, h]
/-- a product of numbers -/
def pr (f : Nat → Int) : Nat → Int
  | 0 => 1
  | k + 1 => pr f k * f k
theorem pr_lt {f : Nat → Int} {a : Nat} : ∀ k, (∀ j, j < k → (f j).natAbs < 2 ^ a) → (pr f k).natAbs < 2 ^ (a * k + 1)
  | 0, _ => by
    show (1 : Int).natAbs < 2 ^ (a * 0 + 1)
    simp
  | k + 1, h => by
    show (pr f k * f k).natAbs < _
    rw [Int.natAbs_mul, show a * (k + 1) + 1 = (a * k + 1) + a by rw [Nat.mul_succ]; omega, Nat.pow_add]
    exact Nat.mul_lt_mul'' (pr_lt k fun j hj => h j (by omega)) (h k (by omega))
theorem pr_fall (n : Nat) : ∀ k, pr (fun i => (n : Int) - (i : Nat)) k = (fall n k : Nat)
  | 0 => rfl
  | k + 1 => by
    show pr (fun i => (n : Int) - (i : Nat)) k * ((n : Int) - (k : Nat)) = ((fall n k * (n - k) : Nat) : Int)
    rw [pr_fall n k]
    by_cases h : k ≤ n
    · rw [Int.natCast_mul, Int.ofNat_sub h]
    · rw [fall_zero (by omega)]
      simp
theorem pr_rise (n : Nat) : ∀ k, pr (fun i => (n : Int) + (i : Nat)) k = ((bg n k * fac k : Nat) : Int)
  | 0 => by
    rw [bg_0]
    rfl
  | k + 1 => by
    show pr (fun i => (n : Int) + (i : Nat)) k * ((n : Int) + (k : Nat)) = ((bg n (k + 1) * (fac k * (k + 1)) : Nat) : Int)
    rw [pr_rise n k, Nat.mul_comm (fac k), ← Nat.mul_assoc, bg_step, ← Int.natCast_add, ← Int.natCast_mul, Nat.mul_assoc, Nat.mul_comm (fac k), Nat.mul_assoc]
end MCh

/-! MRk: ranks of sets: plain mathematics. -/
namespace MCh
theorem ch_pos : ∀ {n k : Nat}, k ≤ n → 1 ≤ ch n k
  | n, 0, _ => by rw [ch_0]; exact Nat.le_refl 1
  | 0, k + 1, h => by omega
  | n + 1, k + 1, h => by
    show 1 ≤ ch n k + ch n (k + 1)
    have := ch_pos (n := n) (k := k) (by omega)
    omega
theorem ch_pascal (n k : Nat) : ch (n + 1) (k + 1) = ch n k + ch n (k + 1) := rfl
theorem ch_mono1 (n k : Nat) : ch n k ≤ ch (n + 1) k := by
  cases k with
  | zero => rw [ch_0, ch_0]; exact Nat.le_refl 1
  | succ k => rw [ch_pascal]; omega
theorem ch_mono {a b k : Nat} (h : a ≤ b) : ch a k ≤ ch b k := by
  obtain ⟨d, rfl⟩ : ∃ d, b = a + d := ⟨b - a, by omega⟩
  clear h
  induction d with
  | zero => exact Nat.le_refl _
  | succ d ih => exact Nat.le_trans ih (ch_mono1 _ _)
theorem ch_lb : ∀ (n k : Nat), n ≤ ch n (k + 1) + k
  | 0, k => by omega
  | n + 1, k => by
    rw [ch_pascal]
    have ih := ch_lb n k
    by_cases h : k ≤ n
    · have := ch_pos h
      omega
    · omega
theorem ch_1 (n : Nat) : ch n 1 = n := by
  induction n with
  | zero => rfl
  | succ n ih => rw [ch_pascal, ch_0, ih]; omega
theorem lt_of_ch {a b k : Nat} (h : ch a k < ch b k) : a < b := by
  by_cases h2 : a < b
  · exact h2
  · have := ch_mono (k := k) (show b ≤ a by omega)
    omega
/-- the rank, along the list -/
def rkO : List Nat → Nat → Nat
  | [], _ => 0
  | x :: xs, s => ch x (s + 1) + rkO xs (s + 1)
def rkG (xs : List Nat) (s : Nat) : Nat → Nat
  | 0 => 0
  | k + 1 => rkG xs s k + ch (gd xs k) (s + k + 1)
theorem gd_cons0 (x : Nat) (xs : List Nat) : gd (x :: xs) 0 = x := rfl
theorem gd_cons (x : Nat) (xs : List Nat) (k : Nat) : gd (x :: xs) (k + 1) = gd xs k := rfl
theorem rkG_cons (x : Nat) (xs : List Nat) (s : Nat) : ∀ k, rkG (x :: xs) s (k + 1) = ch x (s + 1) + rkG xs (s + 1) k
  | 0 => by
    show 0 + ch (gd (x :: xs) 0) (s + 0 + 1) = ch x (s + 1) + 0
    rw [gd_cons0]
    simp
  | k + 1 => by
    show rkG (x :: xs) s (k + 1) + ch (gd (x :: xs) (k + 1)) (s + (k + 1) + 1) = ch x (s + 1) + (rkG xs (s + 1) k + ch (gd xs k) (s + 1 + k + 1))
    rw [rkG_cons x xs s k, gd_cons, show s + (k + 1) + 1 = s + 1 + k + 1 by omega, Nat.add_assoc]
theorem rkG_O : ∀ (xs : List Nat) (s : Nat), rkG xs s xs.length = rkO xs s
  | [], s => rfl
  | x :: xs, s => by
    rw [List.length_cons, rkG_cons, rkG_O xs (s + 1)]
    rfl
theorem rkF_G (xs : List Nat) : ∀ k, rkF xs k = rkG xs 0 k
  | 0 => rfl
  | k + 1 => by
    show rkF xs k + ch (gd xs k) (k + 1) = rkG xs 0 k + ch (gd xs k) (0 + k + 1)
    rw [rkF_G xs k, Nat.zero_add]
theorem rk_O (xs : List Nat) : rk xs = rkO xs 0 := by
  unfold rk
  rw [rkF_G, rkG_O]
/-- rising -/
def ris : List Nat → Prop
  | [] => True
  | x :: xs => (∀ y ∈ xs, x < y) ∧ ris xs
theorem ris_gd : ∀ {xs : List Nat} {k : Nat}, ris xs → k + 1 < xs.length → gd xs k < gd xs (k + 1)
  | [], k, _, h => by simp at h
  | x :: xs, 0, h, hk => by
    rw [gd_cons0, gd_cons]
    exact h.1 _ (gd_mem (by simpa using hk))
  | x :: xs, k + 1, h, hk => by
    rw [gd_cons, gd_cons]
    exact ris_gd h.2 (by simpa using hk)
/-- the number ahead of place k -/
def lst (xs : List Nat) : Nat → Int
  | 0 => -1
  | k + 1 => (gd xs k : Nat)
theorem ris_lst {xs : List Nat} {k : Nat} (h : ris xs) (hk : k < xs.length) : lst xs k < (gd xs k : Nat) := by
  cases k with
  | zero => show (-1 : Int) < _; omega
  | succ k =>
    show ((gd xs k : Nat) : Int) < _
    have := ris_gd h hk
    omega
def mk (n : Nat) (h : Nat → Nat) : List Nat := (List.range n).map h
theorem mk_len (n : Nat) (h : Nat → Nat) : (mk n h).length = n := by simp [mk]
theorem gd_mk {n : Nat} {h : Nat → Nat} {k : Nat} (hk : k < n) : gd (mk n h) k = h k := by simp [gd, mk, List.getD, hk]
theorem mk_gd (xs : List Nat) : mk xs.length (gd xs) = xs := by
  apply List.ext_getElem
  · simp [mk]
  · intro i h1 h2
    simp [mk, gd, List.getD, h2]
theorem mk_congr {n : Nat} {f g : Nat → Nat} (h : ∀ k, k < n → f k = g k) : mk n f = mk n g := by
  unfold mk
  apply List.map_congr_left
  intro k hk
  exact h k (List.mem_range.mp hk)
theorem mk_mem {n : Nat} {h : Nat → Nat} {x : Nat} (hx : x ∈ mk n h) : ∃ k, k < n ∧ x = h k := by
  simp only [mk, List.mem_map, List.mem_range] at hx
  obtain ⟨k, h1, h2⟩ := hx
  exact ⟨k, h1, h2.symm⟩
theorem ris_ge {xs : List Nat} (h : ris xs) : ∀ {k : Nat}, k < xs.length → k ≤ gd xs k
  | 0, _ => Nat.zero_le _
  | k + 1, hk => by
    have h1 := ris_ge h (k := k) (by omega)
    have h2 := ris_gd h hk
    omega
theorem rkF_0 {xs : List Nat} : ∀ {n : Nat}, rkF xs n = 0 → ∀ k, k < n → ch (gd xs k) (k + 1) = 0
  | 0, _, k, h => by omega
  | n + 1, h, k, hk => by
    have h' : rkF xs n + ch (gd xs n) (n + 1) = 0 := h
    by_cases e : k = n
    · subst e
      omega
    · exact rkF_0 (n := n) (by omega) k (by omega)
theorem rk_0 {xs : List Nat} (h : ris xs) (h0 : rk xs = 0) {k : Nat} (hk : k < xs.length) : gd xs k = k := by
  have h1 := rkF_0 h0 k hk
  have h2 := ris_ge h hk
  by_cases e : gd xs k = k
  · exact e
  · have := ch_pos (show k + 1 ≤ gd xs k by omega)
    omega
theorem rkF_congr {xs ys : List Nat} : ∀ {n : Nat}, (∀ k, k < n → gd xs k = gd ys k) → rkF xs n = rkF ys n
  | 0, _ => rfl
  | n + 1, h => by
    show rkF xs n + ch (gd xs n) (n + 1) = rkF ys n + ch (gd ys n) (n + 1)
    rw [rkF_congr (n := n) fun k hk => h k (by omega), h n (by omega)]
/-- the rank of a bag -/
def brF (xs : List Nat) : Nat → Nat
  | 0 => 0
  | k + 1 => brF xs k + bg (gd xs k) (k + 1)
/-- a bag told as a set, and back -/
def spr (xs : List Nat) : List Nat := mk xs.length fun k => gd xs k + k
def uns (xs : List Nat) : List Nat := mk xs.length fun k => gd xs k - k
theorem spr_len (xs : List Nat) : (spr xs).length = xs.length := mk_len _ _
theorem uns_len (xs : List Nat) : (uns xs).length = xs.length := mk_len _ _
theorem brF_spr (xs : List Nat) : ∀ {n : Nat}, n ≤ xs.length → brF xs n = rkF (spr xs) n
  | 0, _ => rfl
  | n + 1, h => by
    show brF xs n + bg (gd xs n) (n + 1) = rkF (spr xs) n + ch (gd (spr xs) n) (n + 1)
    rw [brF_spr xs (n := n) (by omega), spr, gd_mk (by omega)]
    rfl
theorem brF_uns {xs : List Nat} (h : ris xs) : ∀ {n : Nat}, n ≤ xs.length → brF (uns xs) n = rkF xs n
  | 0, _ => rfl
  | n + 1, hn => by
    show brF (uns xs) n + bg (gd (uns xs) n) (n + 1) = rkF xs n + ch (gd xs n) (n + 1)
    have h1 := ris_ge h (k := n) (by omega)
    rw [brF_uns h (n := n) (by omega), uns, gd_mk (by omega), bg, show gd xs n - n + (n + 1) - 1 = gd xs n by omega]
theorem brF_0 {xs : List Nat} : ∀ {n : Nat}, (∀ k, k < n → gd xs k = 0) → brF xs n = 0
  | 0, _ => rfl
  | n + 1, h => by
    show brF xs n + bg (gd xs n) (n + 1) = 0
    rw [brF_0 (n := n) fun k hk => h k (by omega), h n (by omega), bg, ch_small (by omega)]
theorem brF_const {xs : List Nat} {v : Nat} : ∀ {n : Nat}, (∀ k, k < n → gd xs k = v) → brF xs n + 1 = bg (v + 1) n
  | 0, _ => by rw [bg_0]; rfl
  | n + 1, h => by
    show brF xs n + bg (gd xs n) (n + 1) + 1 = bg (v + 1) (n + 1)
    have ih := brF_const (n := n) fun k hk => h k (by omega)
    rw [h n (by omega)]
    unfold bg at *
    rw [show v + 1 + (n + 1) - 1 = (v + n) + 1 by omega, ch_pascal]
    rw [show v + 1 + n - 1 = v + n by omega] at ih
    rw [show v + (n + 1) - 1 = v + n by omega]
    omega
theorem gd_appl {a b : List Nat} {k : Nat} (h : k < a.length) : gd (a ++ b) k = gd a k := by
  simp [gd, List.getD, List.getElem?_append_left h]
theorem gd_appr {a b : List Nat} {k : Nat} (h : a.length ≤ k) : gd (a ++ b) k = gd b (k - a.length) := by
  simp [gd, List.getD, List.getElem?_append_right h]
theorem gd_drop (a : List Nat) (i k : Nat) : gd (a.drop i) k = gd a (i + k) := by
  simp [gd, List.getD]
/-- the bag next behind, raised at place i -/
def nxb (xs : List Nat) (i : Nat) : List Nat := mk i (fun _ => 0) ++ [gd xs i + 1] ++ xs.drop (i + 1)
theorem nxb_len {xs : List Nat} {i : Nat} (h : i < xs.length) : (nxb xs i).length = xs.length := by
  simp [nxb, mk_len]
  omega
theorem gd_nxb_lt {xs : List Nat} {i k : Nat} (h : k < i) : gd (nxb xs i) k = 0 := by
  unfold nxb
  rw [List.append_assoc, gd_appl (by simpa [mk_len] using h), gd_mk h]
theorem gd_nxb_at {xs : List Nat} {i : Nat} : gd (nxb xs i) i = gd xs i + 1 := by
  unfold nxb
  rw [gd_appl (by simp [mk_len]), gd_appr (by simp [mk_len]), mk_len, Nat.sub_self]
  rfl
theorem gd_nxb_gt {xs : List Nat} {i k : Nat} (h : i < k) : gd (nxb xs i) k = gd xs k := by
  unfold nxb
  rw [gd_appr (by simp [mk_len]; omega), gd_drop]
  congr 1
  simp [mk_len]
  omega
theorem brF_nxb {xs : List Nat} {i : Nat} (h : ∀ k, k ≤ i → gd xs k = gd xs 0) : ∀ d, brF (nxb xs i) (i + 1 + d) = brF xs (i + 1 + d) + 1
  | 0 => by
    show brF (nxb xs i) i + bg (gd (nxb xs i) i) (i + 1) = brF xs (i + 1) + 1
    rw [brF_const (v := gd xs 0) fun k hk => h k (by omega), brF_0 fun k hk => gd_nxb_lt hk, gd_nxb_at, h i (Nat.le_refl _), Nat.zero_add]
  | d + 1 => by
    show brF (nxb xs i) (i + 1 + d) + bg (gd (nxb xs i) (i + 1 + d)) (i + 1 + d + 1) = brF xs (i + 1 + d) + bg (gd xs (i + 1 + d)) (i + 1 + d + 1) + 1
    rw [brF_nxb h d, gd_nxb_gt (by omega)]
    omega
theorem nxb_mem {xs : List Nat} {i x : Nat} (hi : i < xs.length) (h : x ∈ nxb xs i) : ∃ y ∈ xs, x ≤ y + 1 := by
  simp only [nxb, List.mem_append, List.mem_singleton] at h
  rcases h with (h | h) | h
  · obtain ⟨k, _, rfl⟩ := mk_mem h
    exact ⟨_, gd_mem hi, Nat.zero_le _⟩
  · exact ⟨_, gd_mem hi, Nat.le_of_eq h⟩
  · exact ⟨x, List.mem_of_mem_drop h, by omega⟩
/-- the number ahead of place k, 0 for none -/
def lsb (xs : List Nat) : Nat → Nat
  | 0 => 0
  | k + 1 => gd xs k
theorem uns_lsb {xs : List Nat} (h : ris xs) {k : Nat} (hk : k < xs.length) : lsb (uns xs) k ≤ gd (uns xs) k := by
  cases k with
  | zero => exact Nat.zero_le _
  | succ k =>
    show gd (uns xs) k ≤ gd (uns xs) (k + 1)
    rw [uns, gd_mk (by omega), gd_mk hk]
    have := ris_gd h hk
    omega
/-- falling lists, their ranks, their order -/
def fal : List Nat → Prop
  | [] => True
  | x :: xs => (∀ y ∈ xs, y < x) ∧ fal xs
def rkR : List Nat → Nat
  | [] => 0
  | x :: xs => ch x (xs.length + 1) + rkR xs
theorem rk_snoc (xs : List Nat) (x : Nat) : rk (xs ++ [x]) = rk xs + ch x (xs.length + 1) := by
  unfold rk
  rw [List.length_append, List.length_singleton]
  show rkF (xs ++ [x]) xs.length + ch (gd (xs ++ [x]) xs.length) (xs.length + 1) = _
  rw [gd_appr (Nat.le_refl _), Nat.sub_self, rkF_congr fun k hk => gd_appl hk]
  rfl
theorem rk_R : ∀ l : List Nat, rk l.reverse = rkR l
  | [] => rfl
  | x :: l => by
    rw [List.reverse_cons, rk_snoc, rk_R l, List.length_reverse]
    show _ = ch x (l.length + 1) + rkR l
    omega
theorem fal_lt : ∀ {l : List Nat} {n : Nat}, fal l → (∀ y ∈ l, y < n) → rkR l < ch n l.length
  | [], n, _, _ => by
    rw [List.length_nil, ch_0]
    exact Nat.one_pos
  | x :: l, n, h, hn => by
    have h1 := fal_lt h.2 h.1
    have h2 := ch_mono (k := l.length + 1) (show x + 1 ≤ n from hn x (by simp))
    rw [ch_pascal] at h2
    show ch x (l.length + 1) + rkR l < ch n (l.length + 1)
    omega
def sgn (a b : Nat) : Int := (if b < a then 1 else 0) - (if a < b then 1 else 0)
def cmpR : List Nat → List Nat → Int
  | x :: xs, y :: ys => if x = y then cmpR xs ys else sgn x y
  | _, _ => 0
theorem sgn_cmpR : ∀ {l m : List Nat}, fal l → fal m → l.length = m.length → sgn (rkR l) (rkR m) = cmpR l m
  | [], [], _, _, _ => by simp [sgn, cmpR, rkR]
  | [], y :: m, _, _, h => by simp at h
  | x :: l, [], _, _, h => by simp at h
  | x :: l, y :: m, h1, h2, h => by
    have hl : l.length = m.length := by simpa using h
    have ih := sgn_cmpR h1.2 h2.2 hl
    have b1 := fal_lt h1.2 h1.1
    have b2 := fal_lt h2.2 h2.1
    have e1 : rkR (x :: l) = ch x (l.length + 1) + rkR l := rfl
    have e2 : rkR (y :: m) = ch y (m.length + 1) + rkR m := rfl
    have p1 := ch_pascal x l.length
    have p2 := ch_pascal y m.length
    by_cases hx : x = y
    · subst hx
      simp only [cmpR, if_pos]
      rw [← ih, e1, e2, hl]
      unfold sgn
      congr 1 <;> split <;> split <;> omega
    · simp only [cmpR, if_neg hx]
      by_cases hlt : x < y
      · have := ch_mono (k := l.length + 1) (show x + 1 ≤ y from hlt)
        rw [hl] at *
        have h3 : rkR (x :: l) < rkR (y :: m) := by omega
        unfold sgn
        rw [if_neg (by omega), if_pos h3, if_neg (by omega), if_pos hlt]
      · have := ch_mono (k := l.length + 1) (show y + 1 ≤ x by omega)
        rw [hl] at *
        have h3 : rkR (y :: m) < rkR (x :: l) := by omega
        unfold sgn
        rw [if_pos h3, if_neg (by omega), if_pos (by omega), if_neg (by omega)]
theorem fal_snoc : ∀ {l : List Nat} {x : Nat}, fal l → (∀ y ∈ l, x < y) → fal (l ++ [x])
  | [], x, _, _ => ⟨by simp, trivial⟩
  | z :: l, x, h, hx => ⟨fun y hy => by
      rcases List.mem_append.mp hy with hy | hy
      · exact h.1 y hy
      · rw [List.mem_singleton.mp hy]
        exact hx z (by simp), fal_snoc h.2 fun y hy => hx y (by simp [hy])⟩
theorem fal_rev : ∀ {xs : List Nat}, ris xs → fal xs.reverse
  | [], _ => trivial
  | x :: xs, h => by
    rw [List.reverse_cons]
    exact fal_snoc (fal_rev h.2) fun y hy => h.1 y (List.mem_reverse.mp hy)
theorem ris_app : ∀ {xs ys : List Nat}, ris xs → ris ys → (∀ x ∈ xs, ∀ y ∈ ys, x < y) → ris (xs ++ ys)
  | [], ys, _, h, _ => h
  | x :: xs, ys, h, h2, h3 => ⟨fun y hy => by
      rcases List.mem_append.mp hy with hy | hy
      · exact h.1 y hy
      · exact h3 x (by simp) y hy, ris_app h.2 h2 fun a ha => h3 a (by simp [ha])⟩
theorem ris_snoc : ∀ {xs : List Nat} {y : Nat}, ris xs → (∀ x ∈ xs, x < y) → ris (xs ++ [y])
  | xs, y, h, h2 => ris_app h ⟨by simp, trivial⟩ fun a ha b hb => by
      rw [List.mem_singleton.mp hb]
      exact h2 a ha
end MCh

namespace Fs
open PySem L2 MCh
theorem nD_gd (xs : List Nat) {k : Nat} (h : k < xs.length) : atI (nD xs) (k : Int) = some (.int (gd xs k : Nat)) := nD_atD xs h
@[simp] theorem v_at0 (a : D) (l : List D) : atI (a :: l) 0 = some a := atI_ofNat (a :: l) (j := 0) (by simp)
@[simp] theorem v_at1 (a b : D) (l : List D) : atI (a :: b :: l) 1 = some b := atI_ofNat (a :: b :: l) (j := 1) (by simp)
@[simp] theorem v_at2 (a b c : D) (l : List D) : atI (a :: b :: c :: l) 2 = some c := atI_ofNat (a :: b :: c :: l) (j := 2) (by simp)
@[simp] theorem v_at3 (a b c d : D) (l : List D) : atI (a :: b :: c :: d :: l) 3 = some d := atI_ofNat (a :: b :: c :: d :: l) (j := 3) (by simp)
theorem enumD_eq (xs : List Nat) : enumD (nD xs) = (List.range xs.length).map fun (k : Nat) => D.tup [.int (k : Int), .int (gd xs k : Nat)] := by
  apply List.ext_getElem
  · simp [enumD]
  · intro i h1 h2
    have h3 : i < xs.length := by simpa using h2
    simp [enumD, nD, gd, List.getD, h3]
theorem lcD_rng {p : Pt} {c : T} {e : E} {δ : Sl} (g f : Nat → D) (n : Nat) (h : ∀ k, k < n → ∃ δ1, bindP p (g k) δ = some δ1 ∧ c δ1 = .ok true ∧ e δ1 = .ok (f k)) : lcD p c e δ ((List.range n).map g) = .ok ((List.range n).map f) := by
  have key : ∀ l : List Nat, (∀ k ∈ l, k < n) → lcD p c e δ (l.map g) = .ok (l.map f) := by
    intro l
    induction l with
    | nil => intro _; rfl
    | cons x l ih =>
      intro hl
      obtain ⟨δ1, e1, e2, e3⟩ := h x (hl x (by simp))
      have := ih fun k hk => hl k (by simp [hk])
      simp only [List.map_cons, lcD, e1, e2, e3, this]
  exact key _ fun k hk => List.mem_range.mp hk
theorem lcD_mapL {α : Type} {p : Pt} {c : T} {e : E} {δ : Sl} (g f : α → D) : ∀ l : List α, (∀ a ∈ l, ∃ δ1, bindP p (g a) δ = some δ1 ∧ c δ1 = .ok true ∧ e δ1 = .ok (f a)) → lcD p c e δ (l.map g) = .ok (l.map f)
  | [], _ => rfl
  | x :: l, h => by
    obtain ⟨δ1, e1, e2, e3⟩ := h x (by simp)
    have ih := lcD_mapL (p := p) (c := c) (e := e) (δ := δ) g f l fun k hk => h k (by simp [hk])
    simp only [List.map_cons, lcD, e1, e2, e3, ih]
theorem lcD_rngD {p : Pt} {c : T} {e : E} {δ : Sl} (f : Nat → D) (n : Nat) (h : ∀ k, k < n → ∃ δ1, bindP p (.int (k : Int)) δ = some δ1 ∧ c δ1 = .ok true ∧ e δ1 = .ok (f k)) : lcD p c e δ (rngD 0 n) = .ok ((List.range n).map f) := by
  have e : rngD 0 n = (List.range n).map fun (k : Nat) => D.int (k : Int) := by
    unfold rngD
    apply List.map_congr_left
    intro a _
    rw [Int.zero_add]
  rw [e]
  exact lcD_rng _ f n h
theorem nD_as (xs : List Nat) : nD xs = (List.range xs.length).map fun (k : Nat) => D.int (gd xs k : Nat) := by
  have h := mk_gd xs
  unfold mk at h
  rw [← h]
  simp [nD]
  intro a ha
  simp [gd, List.getD, ha]
theorem lcD_nD {p : Pt} {c : T} {e : E} {δ : Sl} (f : Nat → D) (xs : List Nat) (h : ∀ k, k < xs.length → ∃ δ1, bindP p (.int (gd xs k : Nat)) δ = some δ1 ∧ c δ1 = .ok true ∧ e δ1 = .ok (f k)) : lcD p c e δ (nD xs) = .ok ((List.range xs.length).map f) := by
  rw [nD_as]
  exact lcD_rng _ f _ h
theorem nD_rng (h : Nat → Nat) (n : Nat) : (List.range n).map (fun k => D.int (h k : Nat)) = nD ((List.range n).map h) := by simp [nD]
theorem nD_set (xs : List Nat) (j v : Nat) : (nD xs).set j (.int (v : Int)) = nD (xs.set j v) := by simp [nD, List.map_set]
theorem mk_set (n : Nat) (f : Nat → Nat) (j v : Nat) : (mk n f).set j v = mk n fun t => if t = j then v else f t := by
  apply List.ext_getElem
  · simp [mk]
  · intro i h1 h2
    simp only [mk, List.getElem_set, List.getElem_map, List.getElem_range]
    by_cases h : j = i
    · subst h; simp
    · rw [if_neg h, if_neg (fun z => h z.symm)]
theorem forN {p : Pt} {body : S} {xs : List Nat} {δ : Sl} (Inv : Nat → Sl → Prop) (h0 : Inv 0 δ)
    (hs : ∀ i (h : i < xs.length) δ, Inv i δ → ∃ δ1, bindP p (.int (gd xs i : Nat)) δ = some δ1 ∧ ∃ δ2, body δ1 = .nx δ2 ∧ Inv (i + 1) δ2) : ∃ δ', forD p body (nD xs) δ = .nx δ' ∧ Inv xs.length δ' := by
  have z := forL (p := p) (body := body) (xs := xs.map fun (x : Nat) => (x : Int)) Inv h0 fun i h δ hi => by
    have h' : i < xs.length := by simpa using h
    have e : (xs.map fun (x : Nat) => (x : Int))[i] = (gd xs i : Nat) := by simp [gd, List.getD, h']
    rw [e]
    exact hs i h' δ hi
  rw [List.length_map, ← nD_eq] at z
  exact z
theorem eqO_T2 (a b c d : Int) : eqO (.tup [.int a, .int b]) (.tup [.int c, .int d]) = some (decide (a = c ∧ b = d)) := by
  have h : eqO (.tup [.int a, .int b]) (.tup [.int c, .int d]) = eqPy (.tup [.int a, .int b]) (.tup [.int c, .int d]) := by simp [eqO]
  rw [h]
  by_cases h1 : a = c <;> by_cases h2 : b = d <;> simp [eqPy, toPy, toPyL, SeqAt.shaped, PyData.canLay0, PyData.canLayAll0, PyData.depth, PyData.depthAll, PyData.eqv, PyData.eqvAll, h1, h2]
@[simp] theorem v_eqT2 (a b c d : Int) : gEq (.tup [.int a, .int b]) (.tup [.int c, .int d]) = some (.bl (decide (a = c ∧ b = d))) := by simp [gEq, eqO_T2]
@[simp] theorem v_neT2 (a b c d : Int) : gNe (.tup [.int a, .int b]) (.tup [.int c, .int d]) = some (.bl (!decide (a = c ∧ b = d))) := by simp [gNe, eqO_T2]
/-- a while loop whose turns are counted ahead -/
theorem whileK {c : T} {body : S} (Inv : Nat → Sl → Prop)
    (hs : ∀ k δ, Inv k δ → c δ = .ok false ∨ (c δ = .ok true ∧ ∃ δ2, body δ = .nx δ2 ∧ ∃ k', k' < k ∧ Inv k' δ2)) : ∀ (n k : Nat) (δ : Sl), Inv k δ → k < n → ∃ δ' k', whileD c body n δ = .nx δ' ∧ Inv k' δ' ∧ c δ' = .ok false
  | 0, k, δ, _, h => by omega
  | n + 1, k, δ, hi, h => by
    rcases hs k δ hi with hc | ⟨hc, δ2, hb, k2, hk, hi2⟩
    · exact ⟨δ, k, by simp only [whileD, hc], hi, hc⟩
    · obtain ⟨δ', k', e, h2⟩ := whileK Inv hs n k2 δ2 hi2 (by omega)
      exact ⟨δ', k', by simp only [whileD, hc, hb, e], h2⟩
/-- a loop over a range from its end -/
theorem forRev {p : Pt} {body : S} {n : Nat} {δ : Sl} (Inv : Nat → Sl → Prop) (h0 : Inv 0 δ)
    (hs : ∀ i δ, i < n → Inv i δ → ∃ δ1, bindP p (.int ((n - i : Nat) : Int)) δ = some δ1 ∧ ∃ δ2, body δ1 = .nx δ2 ∧ Inv (i + 1) δ2) : ∃ δ', forD p body (rngD 1 n).reverse δ = .nx δ' ∧ Inv n δ' := by
  have z := forD_inv (p := p) (body := body) Inv (rngD 1 n).reverse 0 δ h0 fun i d δ hd hi => by
    have h1 : i < n := by
      have := (List.getElem?_eq_some_iff.mp hd).1
      simpa [rngD] using this
    rw [List.getElem?_reverse (by simpa [rngD] using h1), rngD_length] at hd
    obtain ⟨h2, h3⟩ := rngD_some hd
    have h4 : (1 : Int) + ((n - 1 - i : Nat) : Int) = ((n - i : Nat) : Int) := by omega
    rw [h4] at h3
    subst h3
    rw [Nat.zero_add] at hi ⊢
    exact hs i δ h1 hi
  rw [Nat.zero_add, List.length_reverse, rngD_length] at z
  exact z
end Fs

namespace Law
open PySem L2 Fs
/-! the text by places -/
def topS (i : Nat) : Stmt := PySem.Challenge.pw_countgen_k01_a_note_read.main.body.getD i (.Pass ⟨0, 0, 0, 0⟩)
abbrev s_l_alike : Stmt := topS 22
abbrev N_l_alike : List Str := ["_law_found", "_law_note_here", "_law_one", "_law_other"]
abbrev P_l_alike : List Str := ["_law_found", "_law_note_here"]
theorem sc_l_alike : FnScope N_l_alike P_l_alike (defScope s_l_alike) := ⟨rfl, rfl, rfl, by decide +kernel, rfl, by decide +kernel, by decide +kernel⟩
abbrev s_l_take : Stmt := topS 18
abbrev N_l_take : List Str := ["_law_cells", "_law_many"]
abbrev P_l_take : List Str := ["_law_cells", "_law_many"]
theorem sc_l_take : FnScope N_l_take P_l_take (defScope s_l_take) := ⟨rfl, rfl, rfl, by decide +kernel, rfl, by decide +kernel, by decide +kernel⟩
abbrev s_l_word : Stmt := topS 19
abbrev N_l_word : List Str := ["_law_cell", "_law_size", "_law_signs", "_law_word_here", "_law_number", "_law_k"]
abbrev P_l_word : List Str := ["_law_cell", "_law_size", "_law_signs"]
theorem sc_l_word : FnScope N_l_word P_l_word (defScope s_l_word) := ⟨rfl, rfl, rfl, by decide +kernel, rfl, by decide +kernel, by decide +kernel⟩
abbrev s_l_note : Stmt := topS 20
abbrev N_l_note : List Str := ["_law_cells", "_law_opened", "_law_small", "_law_first", "_law_word_here", "_law_second", "_law_label", "_law_third", "_law_inner", "_law_k"]
abbrev P_l_note : List Str := ["_law_cells", "_law_opened"]
theorem sc_l_note : FnScope N_l_note P_l_note (defScope s_l_note) := ⟨rfl, rfl, rfl, by decide +kernel, rfl, by decide +kernel, by decide +kernel⟩
abbrev s_l_text : Stmt := topS 21
abbrev N_l_text : List Str := ["_law_note_here", "_law_text_here", "_law_inner"]
abbrev P_l_text : List Str := ["_law_note_here"]
theorem sc_l_text : FnScope N_l_text P_l_text (defScope s_l_text) := ⟨rfl, rfl, rfl, by decide +kernel, rfl, by decide +kernel, by decide +kernel⟩
abbrev s_in_bounds : Stmt := topS 12
abbrev N_in_bounds : List Str := ["text", "opened", "deepest", "sign"]
abbrev P_in_bounds : List Str := ["text"]
theorem sc_in_bounds : FnScope N_in_bounds P_in_bounds (defScope s_in_bounds) := ⟨rfl, rfl, rfl, by decide +kernel, rfl, by decide +kernel, by decide +kernel⟩
abbrev s_is_mark : Stmt := topS 10
abbrev N_is_mark : List Str := ["text", "sign"]
abbrev P_is_mark : List Str := ["text"]
theorem sc_is_mark : FnScope N_is_mark P_is_mark (defScope s_is_mark) := ⟨rfl, rfl, rfl, by decide +kernel, rfl, by decide +kernel, by decide +kernel⟩
abbrev s_is_word : Stmt := topS 11
abbrev N_is_word : List Str := ["text", "signs", "sign"]
abbrev P_is_word : List Str := ["text"]
theorem sc_is_word : FnScope N_is_word P_is_word (defScope s_is_word) := ⟨rfl, rfl, rfl, by decide +kernel, rfl, by decide +kernel, by decide +kernel⟩
abbrev s_head_of : Stmt := topS 13
abbrev N_head_of : List Str := ["text", "at", "behind", "label", "colon", "word"]
abbrev P_head_of : List Str := ["text", "at"]
theorem sc_head_of : FnScope N_head_of P_head_of (defScope s_head_of) := ⟨rfl, rfl, rfl, by decide +kernel, rfl, by decide +kernel, by decide +kernel⟩
abbrev s_note_at : Stmt := topS 14
abbrev N_note_at : List Str := ["text", "at", "label", "word", "inner", "note"]
abbrev P_note_at : List Str := ["text", "at"]
theorem sc_note_at : FnScope N_note_at P_note_at (defScope s_note_at) := ⟨rfl, rfl, rfl, by decide +kernel, rfl, by decide +kernel, by decide +kernel⟩
abbrev s_read_note : Stmt := topS 15
abbrev N_read_note : List Str := ["text", "note", "at"]
abbrev P_read_note : List Str := ["text"]
theorem sc_read_note : FnScope N_read_note P_read_note (defScope s_read_note) := ⟨rfl, rfl, rfl, by decide +kernel, rfl, by decide +kernel, by decide +kernel⟩
abbrev s_show_note : Stmt := topS 16
abbrev N_show_note : List Str := ["note", "text", "inner"]
abbrev P_show_note : List Str := ["note"]
theorem sc_show_note : FnScope N_show_note P_show_note (defScope s_show_note) := ⟨rfl, rfl, rfl, by decide +kernel, rfl, by decide +kernel, by decide +kernel⟩
abbrev s_law : Stmt := topS 23
abbrev N_law : List Str := ["_law_script", "_law_note_here", "_law_text_here", "_law_found"]
abbrev P_law : List Str := ["_law_script"]
theorem sc_law : FnScope N_law P_law (defScope s_law) := ⟨rfl, rfl, rfl, by decide +kernel, rfl, by decide +kernel, by decide +kernel⟩
/-! what they say of data -/
def U_l_alike (c_l_alike : List D → R D) : List D → R D := runD 4 (
    sSeq (sIf (tOrr (tNt (tV (eUn (gIsi "tuple") (eV 0)))) (tV (eBin gNe (eFn gLen (aCons (eV 0) (aNil))) (eC (.int 3))))) (sRet (eC (.bl false))) (sNx))
    (sSeq (sIf (tOrr (tNt (tV (eUn (gIsi "str") (eBin gIx (eV 0) (eC (.int 0)))))) (tNt (tV (eUn (gIsi "str") (eBin gIx (eV 0) (eC (.int 1))))))) (sRet (eC (.bl false))) (sNx))
    (sSeq (sIf (tOrr (tV (eBin gNe (eBin gIx (eV 0) (eC (.int 0))) (eBin gIx (eV 1) (eC (.int 0))))) (tV (eBin gNe (eBin gIx (eV 0) (eC (.int 1))) (eBin gIx (eV 1) (eC (.int 1)))))) (sRet (eC (.bl false))) (sNx))
    (sSeq (sIf (tV (eBin gIsN (eBin gIx (eV 1) (eC (.int 2))) (eC .non))) (sRet (eBin gIsN (eBin gIx (eV 0) (eC (.int 2))) (eC .non))) (sNx))
    (sSeq (sIf (tOrr (tNt (tV (eUn (gIsi "tuple") (eBin gIx (eV 0) (eC (.int 2)))))) (tV (eBin gNe (eFn gLen (aCons (eBin gIx (eV 0) (eC (.int 2))) (aNil))) (eFn gLen (aCons (eBin gIx (eV 1) (eC (.int 2))) (aNil)))))) (sRet (eC (.bl false))) (sNx))
    (sRet (eFn gAll (aCons (eFz (fLc (iZipD (aCons (eBin gIx (eV 0) (eC (.int 2))) (aCons (eBin gIx (eV 1) (eC (.int 2))) (aNil)))) [2, 3] (.tp [.nm 2, .nm 3]) (tTrue) (eCall c_l_alike (aCons (eV 2) (aCons (eV 3) (aNil)))))) (aNil)))))))))
def S_l_alike : Nat → List D → R D
  | 0 => fun _ => .stk
  | n + 1 => U_l_alike (S_l_alike n)
def S_l_take : List D → List D → R (D × List D) := runB 2 (
    sSeq (sIf (tBr 0 (tV (eBin gEq (eV 0) (eFz (fLst (aNil)))))) (sRetB 0 (p2 (eC (.int 0)))) (sNx))
    (sFrz 0 (sRetB 0 (eBin2 gMod (ePop0 0) (p2 (eV 1))))))
def L_l_word_0 : S := sSeq (sSet 4 (eBin gMod (eBin gMul (eV 4) (eC (.int 48271))) (eC (.int 2147483647))))
    (sSet 3 (eBin gAdd (eV 3) (eBin gIx (eV 2) (eBin gMod (eBin gDiv (eV 4) (eC (.int 1000))) (eFn gLen (aCons (eV 2) (aNil)))))))
def S_l_word : List D → R D := runD 6 (
    sSeq (sSet 3 (eC (.str (Str.ofString ""))))
    (sSeq (sSet 4 (eBin gAdd (eBin gMod (eV 0) (eC (.int 2147483646))) (eC (.int 1))))
    (sSeq (sFor (iRange1 (aCons (eV 1) (aNil))) (.nm 5) (L_l_word_0))
    (sRet (eV 3)))))
def L_l_note_0 (c_l_note : List D → List D → R (D × List D)) : S := sApp2 8 (eCall2 0 c_l_note (aCons (eBin gAdd (eV 1) (eC (.int 1))) (aNil)))
def U_l_note (c_l_note : List D → List D → R (D × List D)) : List D → List D → R (D × List D) := runB 10 (
    sSeq (sSet 2 (eC (.str (Str.ofString "abcdefghijklmnopqrstuvwxyz"))))
    (sSeq (sSet2 3 (eCall2 0 S_l_take (aCons (eBin gPow (eC (.int 10)) (eC (.int 18))) (aNil))))
    (sSeq (sSet 4 (eCall S_l_word (aCons (eBin gDiv (eV 3) (eC (.int 62))) (aCons (eBin gAdd (eC (.int 1)) (eBin gMod (eV 3) (eC (.int 62)))) (aCons (eBin gAdd (eV 2) (eC (.str (Str.ofString "ABCDEFGHIJKLMNOPQRSTUVWXYZ0123456789-")))) (aNil))))))
    (sSeq (sSet2 5 (eCall2 0 S_l_take (aCons (eBin gPow (eC (.int 10)) (eC (.int 18))) (aNil))))
    (sSeq (sSet 6 (eC (.str (Str.ofString ""))))
    (sSeq (sIf (tV (eBin gEq (eBin gMod (eV 5) (eC (.int 2))) (eC (.int 1)))) (sSet 6 (eCall S_l_word (aCons (eBin gDiv (eV 5) (eC (.int 16))) (aCons (eBin gAdd (eC (.int 1)) (eBin gMod (eBin gDiv (eV 5) (eC (.int 2))) (eC (.int 8)))) (aCons (eV 2) (aNil)))))) (sNx))
    (sSeq (sSet2 7 (eCall2 0 S_l_take (aCons (eC (.int 5)) (aNil))))
    (sSeq (sIf (tOrr (tV (eBin gEq (eV 1) (eC (.int 6)))) (tV (eBin gEq (eV 7) (eC (.int 0))))) (sRetB 0 (p2 (eTup (aCons (eV 6) (aCons (eV 4) (aCons (eC .non) (aNil))))))) (sNx))
    (sSeq (sOwn 8 (fLst (aNil)))
    (sSeq (sFor (iRange1 (aCons (eBin gSub (eV 7) (eC (.int 1))) (aNil))) (.nm 9) (L_l_note_0 c_l_note))
    (sFrz 8 (sRetB 0 (p2 (eTup (aCons (eV 6) (aCons (eV 4) (aCons (eFn gTuple (aCons (eV 8) (aNil))) (aNil))))))))))))))))))
def S_l_note : Nat → List D → List D → R (D × List D)
  | 0 => fun _ _ => .stk
  | n + 1 => U_l_note (S_l_note n)
def U_l_text (c_l_text : List D → R D) : List D → R D := runD 3 (
    sSeq (sSet 1 (eBin gIx (eV 0) (eC (.int 1))))
    (sSeq (sIf (tV (eBin gNe (eBin gIx (eV 0) (eC (.int 0))) (eC (.str (Str.ofString ""))))) (sSet 1 (eBin gAdd (eBin gAdd (eBin gIx (eV 0) (eC (.int 0))) (eC (.str (Str.ofString ":")))) (eV 1))) (sNx))
    (sSeq (sIf (tV (eBin gIsN (eBin gIx (eV 0) (eC (.int 2))) (eC .non))) (sRet (eV 1)) (sNx))
    (sRet (eBin gAdd (eBin gAdd (eBin gAdd (eV 1) (eC (.str (Str.ofString "(")))) (eM1 gJoin (eC (.str (Str.ofString ","))) (eFz (fLc (iSeq (eBin gIx (eV 0) (eC (.int 2)))) [2] (.nm 2) (tTrue) (eCall c_l_text (aCons (eV 2) (aNil))))))) (eC (.str (Str.ofString ")"))))))))
def S_l_text : Nat → List D → R D
  | 0 => fun _ => .stk
  | n + 1 => U_l_text (S_l_text n)
def L_in_bounds_0 : S := sIf (tV (eBin gEq (eV 3) (eC (.str (Str.ofString "("))))) (sSeq (sAug 1 gAddI (eC (.int 1)))
    (sSet 2 (eFn gMax2 (aCons (eV 2) (aCons (eV 1) (aNil)))))) (sIf (tV (eBin gEq (eV 3) (eC (.str (Str.ofString ")"))))) (sAug 1 gSub (eC (.int 1))) (sNx))
def S_in_bounds : List D → R D := runD 4 (
    sSeq (sSet 1 (eC (.int 0)))
    (sSeq (sSet 2 (eC (.int 0)))
    (sSeq (sFor (iSeq (eV 0)) (.nm 3) (L_in_bounds_0))
    (sIf (tOrr (tV (eBin gGt (eFn gLen (aCons (eV 0) (aNil))) (eC (.int 2000)))) (tV (eBin gGt (eV 2) (eC (.int 6))))) (sRaise "Crowded") (sNx)))))
def S_is_mark : List D → R D := runD 2 (
    sRet (eAn (eChain gLe gLe (eC (.int 1)) (eFn gLen (aCons (eV 0) (aNil))) (eC (.int 8))) (eFn gAll (aCons (eFz (fLc (iSeq (eV 0)) [1] (.nm 1) (tTrue) (eBin gIn (eV 1) (eC (.str (Str.ofString "abcdefghijklmnopqrstuvwxyz")))))) (aNil)))))
def S_is_word : List D → R D := runD 3 (
    sSeq (sSet 1 (eBin gAdd (eBin gAdd (eBin gAdd (eC (.str (Str.ofString "abcdefghijklmnopqrstuvwxyz"))) (eC (.str (Str.ofString "ABCDEFGHIJKLMNOPQRSTUVWXYZ")))) (eC (.str (Str.ofString "0123456789")))) (eC (.str (Str.ofString "-")))))
    (sRet (eAn (eChain gLe gLe (eC (.int 1)) (eFn gLen (aCons (eV 0) (aNil))) (eC (.int 62))) (eFn gAll (aCons (eFz (fLc (iSeq (eV 0)) [2] (.nm 2) (tTrue) (eBin gIn (eV 2) (eV 1)))) (aNil))))))
def T_head_of_0 : T := tAn (tV (eBin gLt (eV 2) (eFn gLen (aCons (eV 0) (aNil))))) (tV (eBin gNin (eBin gIx (eV 0) (eV 2)) (eC (.str (Str.ofString "(),")))))
def L_head_of_0 : S := sAug 2 gAddI (eC (.int 1))
def S_head_of : List D → R D := runD 6 (
    sSeq (sSet 2 (eV 1))
    (sSeq (whileD (T_head_of_0) (L_head_of_0) fuel)
    (sSeq (sAsg (.tp [.nm 3, .nm 4, .nm 5]) (eM1 gPart (eSl (eV 0) (oSome (eV 1)) (oSome (eV 2))) (eC (.str (Str.ofString ":")))))
    (sSeq (sIf (tV (eBin gEq (eV 4) (eC (.str (Str.ofString ""))))) (sSeq (sSet 3 (eC (.str (Str.ofString ""))))
    (sSet 5 (eSl (eV 0) (oSome (eV 1)) (oSome (eV 2))))) (sIf (tNt (tV (eCall S_is_mark (aCons (eV 3) (aNil))))) (sRaise "NoNote") (sNx)))
    (sSeq (sIf (tNt (tV (eCall S_is_word (aCons (eV 5) (aNil))))) (sRaise "NoNote") (sNx))
    (sRet (eTup (aCons (eV 3) (aCons (eV 5) (aCons (eV 2) (aNil)))))))))))
def T_note_at_0 (c_note_at : List D → R D) : T := tV (eC (.bl true))
def L_note_at_0 (c_note_at : List D → R D) : S := sSeq (sAsg (.tp [.nm 5, .nm 1]) (eCall c_note_at (aCons (eV 0) (aCons (eV 1) (aNil)))))
    (sSeq (sApp 4 (eV 5))
    (sSeq (sIf (tV (eBin gEq (eSl (eV 0) (oSome (eV 1)) (oSome (eBin gAdd (eV 1) (eC (.int 1))))) (eC (.str (Str.ofString ")"))))) (sFrz 4 (sRet (eTup (aCons (eTup (aCons (eV 2) (aCons (eV 3) (aCons (eFn gTuple (aCons (eV 4) (aNil))) (aNil))))) (aCons (eBin gAdd (eV 1) (eC (.int 1))) (aNil)))))) (sNx))
    (sSeq (sIf (tV (eBin gNe (eSl (eV 0) (oSome (eV 1)) (oSome (eBin gAdd (eV 1) (eC (.int 1))))) (eC (.str (Str.ofString ","))))) (sRaise "NoNote") (sNx))
    (sAug 1 gAddI (eC (.int 1))))))
def U_note_at (c_note_at : List D → R D) : List D → R D := runD 6 (
    sSeq (sAsg (.tp [.nm 2, .nm 3, .nm 1]) (eCall S_head_of (aCons (eV 0) (aCons (eV 1) (aNil)))))
    (sSeq (sIf (tV (eBin gNe (eSl (eV 0) (oSome (eV 1)) (oSome (eBin gAdd (eV 1) (eC (.int 1))))) (eC (.str (Str.ofString "("))))) (sRet (eTup (aCons (eTup (aCons (eV 2) (aCons (eV 3) (aCons (eC .non) (aNil))))) (aCons (eV 1) (aNil))))) (sNx))
    (sSeq (sOwn 4 (fLst (aNil)))
    (sSeq (sAug 1 gAddI (eC (.int 1)))
    (sSeq (sIf (tV (eBin gEq (eSl (eV 0) (oSome (eV 1)) (oSome (eBin gAdd (eV 1) (eC (.int 1))))) (eC (.str (Str.ofString ")"))))) (sRet (eTup (aCons (eTup (aCons (eV 2) (aCons (eV 3) (aCons (eTup (aNil)) (aNil))))) (aCons (eBin gAdd (eV 1) (eC (.int 1))) (aNil))))) (sNx))
    (whileD (T_note_at_0 c_note_at) (L_note_at_0 c_note_at) fuel))))))
def S_note_at : Nat → List D → R D
  | 0 => fun _ => .stk
  | n + 1 => U_note_at (S_note_at n)
def S_read_note : List D → R D := runD 3 (
    sSeq (sIf (tNt (tV (eUn (gIsi "str") (eV 0)))) (sRaise "NoNote") (sNx))
    (sSeq (sDrop (eCall S_in_bounds (aCons (eV 0) (aNil))))
    (sSeq (sAsg (.tp [.nm 1, .nm 2]) (eCall (S_note_at 70) (aCons (eV 0) (aCons (eC (.int 0)) (aNil)))))
    (sSeq (sIf (tV (eBin gNe (eV 2) (eFn gLen (aCons (eV 0) (aNil))))) (sRaise "NoNote") (sNx))
    (sRet (eV 1))))))
def U_show_note (c_show_note : List D → R D) : List D → R D := runD 3 (
    sSeq (sSet 1 (eBin gIx (eV 0) (eC (.int 1))))
    (sSeq (sIf (tV (eBin gNe (eBin gIx (eV 0) (eC (.int 0))) (eC (.str (Str.ofString ""))))) (sSet 1 (eBin gAdd (eBin gAdd (eBin gIx (eV 0) (eC (.int 0))) (eC (.str (Str.ofString ":")))) (eV 1))) (sNx))
    (sSeq (sIf (tV (eBin gIsN (eBin gIx (eV 0) (eC (.int 2))) (eC .non))) (sRet (eV 1)) (sNx))
    (sRet (eBin gAdd (eBin gAdd (eBin gAdd (eV 1) (eC (.str (Str.ofString "(")))) (eM1 gJoin (eC (.str (Str.ofString ","))) (eFz (fLc (iSeq (eBin gIx (eV 0) (eC (.int 2)))) [2] (.nm 2) (tTrue) (eCall c_show_note (aCons (eV 2) (aNil))))))) (eC (.str (Str.ofString ")"))))))))
def S_show_note : Nat → List D → R D
  | 0 => fun _ => .stk
  | n + 1 => U_show_note (S_show_note n)
def S_law : List D → R D := runD 4 (
    sSeq (sSet 1 (eCallF (fList (eSl (eV 0) (oNone) (oSome (eC (.int 64))))) (S_l_note 70) (aCons (eC (.int 0)) (aNil))))
    (sSeq (sSet 2 (eCall (S_l_text 70) (aCons (eV 1) (aNil))))
    (sSeq (sIf (tNt (tV (eCall (S_l_alike 70) (aCons (eCall S_read_note (aCons (eV 2) (aNil))) (aCons (eV 1) (aNil)))))) (sRet (eC (.bl false))) (sNx))
    (sSeq (sSet 3 (eCall (S_show_note 70) (aCons (eV 1) (aNil))))
    (sRet (eAn (eUn (gIsi "str") (eV 3)) (eBin gEq (eV 3) (eV 2))))))))
/-! they keep it -/
section
variable {P : Program} {w : World} {K : PySem.W.Frag} {mg : Str → Option Value} {base : Heap} {ct : String → Addr}
set_option maxHeartbeats 4000000 in
theorem ok_l_alike {a : Addr} {fd : FuncData} (F : L2.Fun K "_law_alike" "_law_alike" s_l_alike a fd) {k : Nat} (hk : 0 ≤ k) {c_l_alike : List D → R D} {a_l_alike : Addr} {f_l_alike : FuncData} (G_l_alike : FnOk P w K mg base (L2.CX P w) k a_l_alike f_l_alike P_l_alike (spD K ct 2 c_l_alike)) (M_l_alike : mg "_law_alike" = some (.ref a_l_alike)) (K_l_alike : PySem.W.keepIn K (.ref a_l_alike) = true) (B_l_alike : Binds K f_l_alike P_l_alike []) (Z_all : mg "all" = none) (Z_isinstance : mg "isinstance" = none) (Z_len : mg "len" = none) (Z_str : mg "str" = none) (Z_tuple : mg "tuple" = none) (Z_zip : mg "zip" = none) :
    FnOk P w K mg base (L2.CX P w) (k + 1) a fd P_l_alike (spD K ct 2 (U_l_alike c_l_alike)) := by
  refine fn_ok (N := N_l_alike) (ct := ct) F sc_l_alike (by decide) (fun cdv A outer s H G E hr => ?_)
  have nd := sc_l_alike.nd
  exact ss_cons (ss_if (PW.pt (sw_or (st_not (st_val (se_isi (n := "tuple") (se_var 0) rfl Z_isinstance rfl Z_tuple (by decide +kernel)))) (sw_or1 (st_cmp (o_ne (hu_big hr)) (se_callB (b_len) rfl Z_len (by decide +kernel) (sa_cons (se_var 0) (sa_nil))) (se_int))))) (ss_one (ss_ret (se_bl))) (ss_nil))
    (ss_cons (ss_if (PW.pt (sw_or (st_not (st_val (se_isi (n := "str") (se_ix (se_var 0) (se_int)) rfl Z_isinstance rfl Z_str (by decide +kernel)))) (sw_or1 (st_not (st_val (se_isi (n := "str") (se_ix (se_var 0) (se_int)) rfl Z_isinstance rfl Z_str (by decide +kernel))))))) (ss_one (ss_ret (se_bl))) (ss_nil))
    (ss_cons (ss_if (PW.pt (sw_or (st_cmp (o_ne (hu_big hr)) (se_ix (se_var 0) (se_int)) (se_ix (se_var 1) (se_int))) (sw_or1 (st_cmp (o_ne (hu_big hr)) (se_ix (se_var 0) (se_int)) (se_ix (se_var 1) (se_int)))))) (ss_one (ss_ret (se_bl))) (ss_nil))
    (ss_cons (ss_if (st_cmp o_isN (se_ix (se_var 1) (se_int)) (se_non)) (ss_one (ss_ret (se_cmp o_isN (se_ix (se_var 0) (se_int)) (se_non)))) (ss_nil))
    (ss_cons (ss_if (PW.pt (sw_or (st_not (st_val (se_isi (n := "tuple") (se_ix (se_var 0) (se_int)) rfl Z_isinstance rfl Z_tuple (by decide +kernel)))) (sw_or1 (st_cmp (o_ne (hu_big hr)) (se_callB (b_len) rfl Z_len (by decide +kernel) (sa_cons (se_ix (se_var 0) (se_int)) (sa_nil))) (se_callB (b_len) rfl Z_len (by decide +kernel) (sa_cons (se_ix (se_var 1) (se_int)) (sa_nil))))))) (ss_one (ss_ret (se_bl))) (ss_nil))
    (ss_one (ss_ret (se_callB (b_all rfl) rfl Z_all (by decide +kernel) (sa_cons (SF.se (sf_lc [("_law_one", 2), ("_law_other", 3)] rfl nd (si_zip rfl Z_zip (sa_cons (se_ix (se_var 0) (se_int)) (sa_cons (se_ix (se_var 1) (se_int)) (sa_nil)))) (blkOk_by (by change blkC N_l_alike (defScope s_l_alike) _ _ = true; decide +kernel)) (by decide) (fun _ _ _ _ _ => sg_tup rfl (sgs_cons (sg_name 2 nd) (sgs_cons (sg_name 3 nd) (sgs_nil)))) (fun _ _ _ _ _ => sts_nil) (fun _ _ _ _ _ => se_call G_l_alike (hr) takes0 rfl M_l_alike K_l_alike B_l_alike (sa_cons (se_var 2) (sa_cons (se_var 3) (sa_nil))) (lenA_cons (lenA_cons (lenA_nil)))))) (sa_nil)))))))))
set_option maxHeartbeats 4000000 in
theorem ok_l_take {a : Addr} {fd : FuncData} (F : L2.Fun K "_law_take" "_law_take" s_l_take a fd) :
    FnOk P w K mg base (L2.CX P w) 1 a fd P_l_take (spB K ct 1 S_l_take) := by
  refine fn_okB (N := N_l_take) (ct := ct) F sc_l_take rfl (by decide) (fun cdv A outer s H G p E hr => ?_)
  have nd := sc_l_take.nd
  exact ss_cons (ss_if (st_bor 0 (st_cmp (o_eq (hu_big hr)) (se_var 0) (SF.se (sf_lst (sa_nil))))) (ss_one (ss_retB 0 (se2_of (se_int)))) (ss_nil))
    (ss_one (ss_frz 0 (ss_retB 0 (se2_bin o_mod (se2_pop0 0 pe_int) (se2_of (se_var 1))))))
set_option maxHeartbeats 4000000 in
theorem ok_l_word {a : Addr} {fd : FuncData} (F : L2.Fun K "_law_word" "_law_word" s_l_word a fd) (Z_len : mg "len" = none) (Z_range : mg "range" = none) :
    FnOk P w K mg base (L2.CX P w) 1 a fd P_l_word (spD K ct 3 S_l_word) := by
  refine fn_ok (N := N_l_word) (ct := ct) F sc_l_word (by decide) (fun cdv A outer s H G E hr => ?_)
  have nd := sc_l_word.nd
  exact ss_cons (ss_set 3 (se_str) nd)
    (ss_cons (ss_set 4 (se_bin o_add (se_bin o_mod (se_var 0) (se_int)) (se_int)) nd)
    (ss_cons (ss_for (passes_of rfl) rfl (si_range1 rfl Z_range (sa_cons (se_var 1) (sa_nil))) (sg_name 5 nd) (ss_cons (ss_set 4 (se_bin o_mod (se_bin o_mul (se_var 4) (se_int)) (se_int)) nd)
    (ss_one (ss_set 3 (se_bin o_add (se_var 3) (se_ix (se_var 2) (se_bin o_mod (se_bin o_div (se_var 4) (se_int)) (se_callB (b_len) rfl Z_len (by decide +kernel) (sa_cons (se_var 2) (sa_nil)))))) nd))))
    (ss_one (ss_ret (se_var 3)))))
set_option maxHeartbeats 4000000 in
theorem ok_l_note {a : Addr} {fd : FuncData} (F : L2.Fun K "_law_note" "_law_note" s_l_note a fd) {k : Nat} (hk : 1 ≤ k) {c_l_note : List D → List D → R (D × List D)} {a_l_note : Addr} {f_l_note : FuncData} (G_l_note : FnOk P w K mg base (L2.CX P w) k a_l_note f_l_note P_l_note (spB K ct 1 c_l_note)) (M_l_note : mg "_law_note" = some (.ref a_l_note)) (K_l_note : PySem.W.keepIn K (.ref a_l_note) = true) (B_l_note : Binds K f_l_note P_l_note []) {a_l_take : Addr} {f_l_take : FuncData} (G_l_take : FnOk P w K mg base (L2.CX P w) 1 a_l_take f_l_take P_l_take (spB K ct 1 S_l_take)) (M_l_take : mg "_law_take" = some (.ref a_l_take)) (K_l_take : PySem.W.keepIn K (.ref a_l_take) = true) (B_l_take : Binds K f_l_take P_l_take []) {a_l_word : Addr} {f_l_word : FuncData} (G_l_word : FnOk P w K mg base (L2.CX P w) 1 a_l_word f_l_word P_l_word (spD K ct 3 S_l_word)) (M_l_word : mg "_law_word" = some (.ref a_l_word)) (K_l_word : PySem.W.keepIn K (.ref a_l_word) = true) (B_l_word : Binds K f_l_word P_l_word []) (Z_range : mg "range" = none) (Z_tuple : mg "tuple" = none) :
    FnOk P w K mg base (L2.CX P w) (k + 1) a fd P_l_note (spB K ct 1 (U_l_note c_l_note)) := by
  refine fn_okB (N := N_l_note) (ct := ct) F sc_l_note rfl (by decide) (fun cdv A outer s H G p E hr => ?_)
  have nd := sc_l_note.nd
  exact ss_cons (ss_set 2 (se_str) nd)
    (ss_cons (ss_set2 3 (se2_call 0 G_l_take (hr.mono (Nat.le_trans (by decide) hk)) (takes_of rfl rfl rfl rfl) rfl M_l_take K_l_take B_l_take (sa_cons (se_bin o_pow (se_int) (se_int)) (sa_nil)) (lenA_cons (lenA_nil))) nd)
    (ss_cons (ss_set 4 (se_call G_l_word (hr.mono (Nat.le_trans (by decide) hk)) (takes_of rfl rfl rfl rfl) rfl M_l_word K_l_word B_l_word (sa_cons (se_bin o_div (se_var 3) (se_int)) (sa_cons (se_bin o_add (se_int) (se_bin o_mod (se_var 3) (se_int))) (sa_cons (se_bin o_add (se_var 2) (se_str)) (sa_nil)))) (lenA_cons (lenA_cons (lenA_cons (lenA_nil))))) nd)
    (ss_cons (ss_set2 5 (se2_call 0 G_l_take (hr.mono (Nat.le_trans (by decide) hk)) (takes_of rfl rfl rfl rfl) rfl M_l_take K_l_take B_l_take (sa_cons (se_bin o_pow (se_int) (se_int)) (sa_nil)) (lenA_cons (lenA_nil))) nd)
    (ss_cons (ss_set 6 (se_str) nd)
    (ss_cons (ss_if (st_cmp (o_eq (hu_big hr)) (se_bin o_mod (se_var 5) (se_int)) (se_int)) (ss_one (ss_set 6 (se_call G_l_word (hr.mono (Nat.le_trans (by decide) hk)) (takes_of rfl rfl rfl rfl) rfl M_l_word K_l_word B_l_word (sa_cons (se_bin o_div (se_var 5) (se_int)) (sa_cons (se_bin o_add (se_int) (se_bin o_mod (se_bin o_div (se_var 5) (se_int)) (se_int))) (sa_cons (se_var 2) (sa_nil)))) (lenA_cons (lenA_cons (lenA_cons (lenA_nil))))) nd)) (ss_nil))
    (ss_cons (ss_set2 7 (se2_call 0 G_l_take (hr.mono (Nat.le_trans (by decide) hk)) (takes_of rfl rfl rfl rfl) rfl M_l_take K_l_take B_l_take (sa_cons (se_int) (sa_nil)) (lenA_cons (lenA_nil))) nd)
    (ss_cons (ss_if (PW.pt (sw_or (st_cmp (o_eq (hu_big hr)) (se_var 1) (se_int)) (sw_or1 (st_cmp (o_eq (hu_big hr)) (se_var 7) (se_int))))) (ss_one (ss_retB 0 (se2_of (se_tup (sa_cons (se_var 6) (sa_cons (se_var 4) (sa_cons (se_non) (sa_nil)))))))) (ss_nil))
    (ss_cons (ss_own 8 (sf_lst (sa_nil)) nd)
    (ss_cons (ss_for (passes_of rfl) rfl (si_range1 rfl Z_range (sa_cons (se_bin o_sub (se_var 7) (se_int)) (sa_nil))) (sg_name 9 nd) (ss_one (ss_app2 8 (se2_call 0 G_l_note (hr) (takes_of rfl rfl rfl rfl) rfl M_l_note K_l_note B_l_note (sa_cons (se_bin o_add (se_var 1) (se_int)) (sa_nil)) (lenA_cons (lenA_nil))))))
    (ss_one (ss_frz 8 (ss_retB 0 (se2_of (se_tup (sa_cons (se_var 6) (sa_cons (se_var 4) (sa_cons (se_callT (b_tuple) rfl Z_tuple (by decide +kernel) (sa_cons (se_var 8) (sa_nil))) (sa_nil))))))))))))))))))
set_option maxHeartbeats 4000000 in
theorem ok_l_text {a : Addr} {fd : FuncData} (F : L2.Fun K "_law_text" "_law_text" s_l_text a fd) {k : Nat} (hk : 0 ≤ k) {c_l_text : List D → R D} {a_l_text : Addr} {f_l_text : FuncData} (G_l_text : FnOk P w K mg base (L2.CX P w) k a_l_text f_l_text P_l_text (spD K ct 1 c_l_text)) (M_l_text : mg "_law_text" = some (.ref a_l_text)) (K_l_text : PySem.W.keepIn K (.ref a_l_text) = true) (B_l_text : Binds K f_l_text P_l_text []) :
    FnOk P w K mg base (L2.CX P w) (k + 1) a fd P_l_text (spD K ct 1 (U_l_text c_l_text)) := by
  refine fn_ok (N := N_l_text) (ct := ct) F sc_l_text (by decide) (fun cdv A outer s H G E hr => ?_)
  have nd := sc_l_text.nd
  exact ss_cons (ss_set 1 (se_ix (se_var 0) (se_int)) nd)
    (ss_cons (ss_if (st_cmp (o_ne (hu_big hr)) (se_ix (se_var 0) (se_int)) (se_str)) (ss_one (ss_set 1 (se_bin o_add (se_bin o_add (se_ix (se_var 0) (se_int)) (se_str)) (se_var 1)) nd)) (ss_nil))
    (ss_cons (ss_if (st_cmp o_isN (se_ix (se_var 0) (se_int)) (se_non)) (ss_one (ss_ret (se_var 1))) (ss_nil))
    (ss_one (ss_ret (se_bin o_add (se_bin o_add (se_bin o_add (se_var 1) (se_str)) (se_m1 PySem.F.slot_str_join PySem.F.type_str_join m_join (se_str) (SF.se (sf_lc [("_law_inner", 2)] rfl nd (si_seq (se_ix (se_var 0) (se_int))) (blkOk_by (by change blkC N_l_text (defScope s_l_text) _ _ = true; decide +kernel)) (by decide) (fun _ _ _ _ _ => sg_name 2 nd) (fun _ _ _ _ _ => sts_nil) (fun _ _ _ _ _ => se_call G_l_text (hr) takes0 rfl M_l_text K_l_text B_l_text (sa_cons (se_var 2) (sa_nil)) (lenA_cons (lenA_nil))))))) (se_str))))))
set_option maxHeartbeats 4000000 in
theorem ok_in_bounds {a : Addr} {fd : FuncData} (F : L2.Fun K "in_bounds" "in_bounds" s_in_bounds a fd) (Z_len : mg "len" = none) (Z_max : mg "max" = none) (CN_MOST_OPEN : KC K mg "MOST_OPEN" (.int 6)) (CN_MOST_SIGNS : KC K mg "MOST_SIGNS" (.int 2000)) (X_Crowded : XC K mg ct "Crowded") :
    FnOk P w K mg base (L2.CX P w) 1 a fd P_in_bounds (spD K ct 1 S_in_bounds) := by
  refine fn_ok (N := N_in_bounds) (ct := ct) F sc_in_bounds (by decide) (fun cdv A outer s H G E hr => ?_)
  have nd := sc_in_bounds.nd
  exact ss_cons (ss_set 1 (se_int) nd)
    (ss_cons (ss_set 2 (se_int) nd)
    (ss_cons (ss_for (passes_of rfl) rfl (si_seq (se_var 0)) (sg_name 3 nd) (ss_one (ss_if (st_cmp (o_eq (hu_big hr)) (se_var 3) (se_str)) (ss_cons (ss_aug 1 io_addI (se_int) nd)
    (ss_one (ss_set 2 (se_callB (b_max2 rfl) rfl Z_max (by decide +kernel) (sa_cons (se_var 2) (sa_cons (se_var 1) (sa_nil)))) nd))) (ss_one (ss_if (st_cmp (o_eq (hu_big hr)) (se_var 3) (se_str)) (ss_one (ss_aug 1 io_sub (se_int) nd)) (ss_nil))))))
    (ss_one (ss_if (PW.pt (sw_or (st_cmp o_gt (se_callB (b_len) rfl Z_len (by decide +kernel) (sa_cons (se_var 0) (sa_nil))) (se_con CN_MOST_SIGNS)) (sw_or1 (st_cmp o_gt (se_var 2) (se_con CN_MOST_OPEN))))) (ss_one (ss_raise (cn := "Crowded") rfl (takes_of rfl rfl rfl rfl) X_Crowded rfl)) (ss_nil)))))
set_option maxHeartbeats 4000000 in
theorem ok_is_mark {a : Addr} {fd : FuncData} (F : L2.Fun K "is_mark" "is_mark" s_is_mark a fd) (Z_all : mg "all" = none) (Z_len : mg "len" = none) (CN_LETTERS : KC K mg "LETTERS" (.str (Str.ofString "abcdefghijklmnopqrstuvwxyz"))) :
    FnOk P w K mg base (L2.CX P w) 1 a fd P_is_mark (spD K ct 1 S_is_mark) := by
  refine fn_ok (N := N_is_mark) (ct := ct) F sc_is_mark (by decide) (fun cdv A outer s H G E hr => ?_)
  have nd := sc_is_mark.nd
  exact ss_one (ss_ret (se_and (se_chain o_le o_le (se_int) (se_callB (b_len) rfl Z_len (by decide +kernel) (sa_cons (se_var 0) (sa_nil))) (se_int)) (se_one (se_callB (b_all rfl) rfl Z_all (by decide +kernel) (sa_cons (SF.se (sf_lc [("sign", 1)] rfl nd (si_seq (se_var 0)) (blkOk_by (by change blkC N_is_mark (defScope s_is_mark) _ _ = true; decide +kernel)) (by decide) (fun _ _ _ _ _ => sg_name 1 nd) (fun _ _ _ _ _ => sts_nil) (fun _ _ _ _ _ => se_cmp o_in (se_var 1) (se_con CN_LETTERS)))) (sa_nil))))))
set_option maxHeartbeats 4000000 in
theorem ok_is_word {a : Addr} {fd : FuncData} (F : L2.Fun K "is_word" "is_word" s_is_word a fd) (Z_all : mg "all" = none) (Z_len : mg "len" = none) (CN_FIGURES : KC K mg "FIGURES" (.str (Str.ofString "0123456789"))) (CN_GREAT : KC K mg "GREAT" (.str (Str.ofString "ABCDEFGHIJKLMNOPQRSTUVWXYZ"))) (CN_LETTERS : KC K mg "LETTERS" (.str (Str.ofString "abcdefghijklmnopqrstuvwxyz"))) :
    FnOk P w K mg base (L2.CX P w) 1 a fd P_is_word (spD K ct 1 S_is_word) := by
  refine fn_ok (N := N_is_word) (ct := ct) F sc_is_word (by decide) (fun cdv A outer s H G E hr => ?_)
  have nd := sc_is_word.nd
  exact ss_cons (ss_set 1 (se_bin o_add (se_bin o_add (se_bin o_add (se_con CN_LETTERS) (se_con CN_GREAT)) (se_con CN_FIGURES)) (se_str)) nd)
    (ss_one (ss_ret (se_and (se_chain o_le o_le (se_int) (se_callB (b_len) rfl Z_len (by decide +kernel) (sa_cons (se_var 0) (sa_nil))) (se_int)) (se_one (se_callB (b_all rfl) rfl Z_all (by decide +kernel) (sa_cons (SF.se (sf_lc [("sign", 2)] rfl nd (si_seq (se_var 0)) (blkOk_by (by change blkC N_is_word (defScope s_is_word) _ _ = true; decide +kernel)) (by decide) (fun _ _ _ _ _ => sg_name 2 nd) (fun _ _ _ _ _ => sts_nil) (fun _ _ _ _ _ => se_cmp o_in (se_var 2) (se_var 1)))) (sa_nil)))))))
set_option maxHeartbeats 4000000 in
theorem ok_head_of {a : Addr} {fd : FuncData} (F : L2.Fun K "head_of" "head_of" s_head_of a fd) {a_is_mark : Addr} {f_is_mark : FuncData} (G_is_mark : FnOk P w K mg base (L2.CX P w) 1 a_is_mark f_is_mark P_is_mark (spD K ct 1 S_is_mark)) (M_is_mark : mg "is_mark" = some (.ref a_is_mark)) (K_is_mark : PySem.W.keepIn K (.ref a_is_mark) = true) (B_is_mark : Binds K f_is_mark P_is_mark []) {a_is_word : Addr} {f_is_word : FuncData} (G_is_word : FnOk P w K mg base (L2.CX P w) 1 a_is_word f_is_word P_is_word (spD K ct 1 S_is_word)) (M_is_word : mg "is_word" = some (.ref a_is_word)) (K_is_word : PySem.W.keepIn K (.ref a_is_word) = true) (B_is_word : Binds K f_is_word P_is_word []) (Z_len : mg "len" = none) (X_NoNote : XC K mg ct "NoNote") :
    FnOk P w K mg base (L2.CX P w) 2 a fd P_head_of (spD K ct 2 S_head_of) := by
  refine fn_ok (N := N_head_of) (ct := ct) F sc_head_of (by decide) (fun cdv A outer s H G E hr => ?_)
  have nd := sc_head_of.nd
  exact ss_cons (ss_set 2 (se_var 1) nd)
    (ss_cons (ss_while fuel (passes_of rfl) (PW.pt (sw_and (st_cmp o_lt (se_var 2) (se_callB (b_len) rfl Z_len (by decide +kernel) (sa_cons (se_var 0) (sa_nil)))) (sw_and1 (st_cmp o_nin (se_ix (se_var 0) (se_var 2)) (se_str))))) (ss_one (ss_aug 2 io_addI (se_int) nd)))
    (ss_cons (ss_asg (se_m1 PySem.F.slot_str_partition PySem.F.type_str_partition m_part (se_sl (se_var 0) (so_some (se_var 1)) (so_some (se_var 2))) (se_str)) (sg_tup rfl (sgs_cons (sg_name 3 nd) (sgs_cons (sg_name 4 nd) (sgs_cons (sg_name 5 nd) (sgs_nil))))))
    (ss_cons (ss_if (st_cmp (o_eq (hu_big hr)) (se_var 4) (se_str)) (ss_cons (ss_set 3 (se_str) nd)
    (ss_one (ss_set 5 (se_sl (se_var 0) (so_some (se_var 1)) (so_some (se_var 2))) nd))) (ss_one (ss_if (st_not (st_val (se_call G_is_mark (hr.mono (by decide)) (takes_of rfl rfl rfl rfl) rfl M_is_mark K_is_mark B_is_mark (sa_cons (se_var 3) (sa_nil)) (lenA_cons (lenA_nil))))) (ss_one (ss_raise (cn := "NoNote") rfl (takes_of rfl rfl rfl rfl) X_NoNote rfl)) (ss_nil))))
    (ss_cons (ss_if (st_not (st_val (se_call G_is_word (hr.mono (by decide)) (takes_of rfl rfl rfl rfl) rfl M_is_word K_is_word B_is_word (sa_cons (se_var 5) (sa_nil)) (lenA_cons (lenA_nil))))) (ss_one (ss_raise (cn := "NoNote") rfl (takes_of rfl rfl rfl rfl) X_NoNote rfl)) (ss_nil))
    (ss_one (ss_ret (se_tup (sa_cons (se_var 3) (sa_cons (se_var 5) (sa_cons (se_var 2) (sa_nil)))))))))))
set_option maxHeartbeats 4000000 in
theorem ok_note_at {a : Addr} {fd : FuncData} (F : L2.Fun K "note_at" "note_at" s_note_at a fd) {k : Nat} (hk : 2 ≤ k) {c_note_at : List D → R D} {a_head_of : Addr} {f_head_of : FuncData} (G_head_of : FnOk P w K mg base (L2.CX P w) 2 a_head_of f_head_of P_head_of (spD K ct 2 S_head_of)) (M_head_of : mg "head_of" = some (.ref a_head_of)) (K_head_of : PySem.W.keepIn K (.ref a_head_of) = true) (B_head_of : Binds K f_head_of P_head_of []) {a_note_at : Addr} {f_note_at : FuncData} (G_note_at : FnOk P w K mg base (L2.CX P w) k a_note_at f_note_at P_note_at (spD K ct 2 c_note_at)) (M_note_at : mg "note_at" = some (.ref a_note_at)) (K_note_at : PySem.W.keepIn K (.ref a_note_at) = true) (B_note_at : Binds K f_note_at P_note_at []) (Z_tuple : mg "tuple" = none) (X_NoNote : XC K mg ct "NoNote") :
    FnOk P w K mg base (L2.CX P w) (k + 1) a fd P_note_at (spD K ct 2 (U_note_at c_note_at)) := by
  refine fn_ok (N := N_note_at) (ct := ct) F sc_note_at (by decide) (fun cdv A outer s H G E hr => ?_)
  have nd := sc_note_at.nd
  exact ss_cons (ss_asg (se_call G_head_of (hr.mono (Nat.le_trans (by decide) hk)) (takes_of rfl rfl rfl rfl) rfl M_head_of K_head_of B_head_of (sa_cons (se_var 0) (sa_cons (se_var 1) (sa_nil))) (lenA_cons (lenA_cons (lenA_nil)))) (sg_tup rfl (sgs_cons (sg_name 2 nd) (sgs_cons (sg_name 3 nd) (sgs_cons (sg_name 1 nd) (sgs_nil))))))
    (ss_cons (ss_if (st_cmp (o_ne (hu_big hr)) (se_sl (se_var 0) (so_some (se_var 1)) (so_some (se_bin o_add (se_var 1) (se_int)))) (se_str)) (ss_one (ss_ret (se_tup (sa_cons (se_tup (sa_cons (se_var 2) (sa_cons (se_var 3) (sa_cons (se_non) (sa_nil))))) (sa_cons (se_var 1) (sa_nil)))))) (ss_nil))
    (ss_cons (ss_own 4 (sf_lst (sa_nil)) nd)
    (ss_cons (ss_aug 1 io_addI (se_int) nd)
    (ss_cons (ss_if (st_cmp (o_eq (hu_big hr)) (se_sl (se_var 0) (so_some (se_var 1)) (so_some (se_bin o_add (se_var 1) (se_int)))) (se_str)) (ss_one (ss_ret (se_tup (sa_cons (se_tup (sa_cons (se_var 2) (sa_cons (se_var 3) (sa_cons (se_tup (sa_nil)) (sa_nil))))) (sa_cons (se_bin o_add (se_var 1) (se_int)) (sa_nil)))))) (ss_nil))
    (ss_one (ss_while fuel (passes_of rfl) (st_val (se_bl)) (ss_cons (ss_asg (se_call G_note_at (hr) (takes_of rfl rfl rfl rfl) rfl M_note_at K_note_at B_note_at (sa_cons (se_var 0) (sa_cons (se_var 1) (sa_nil))) (lenA_cons (lenA_cons (lenA_nil)))) (sg_tup rfl (sgs_cons (sg_name 5 nd) (sgs_cons (sg_name 1 nd) (sgs_nil)))))
    (ss_cons (ss_app 4 (se_var 5))
    (ss_cons (ss_if (st_cmp (o_eq (hu_big hr)) (se_sl (se_var 0) (so_some (se_var 1)) (so_some (se_bin o_add (se_var 1) (se_int)))) (se_str)) (ss_one (ss_frz 4 (ss_ret (se_tup (sa_cons (se_tup (sa_cons (se_var 2) (sa_cons (se_var 3) (sa_cons (se_callT (b_tuple) rfl Z_tuple (by decide +kernel) (sa_cons (se_var 4) (sa_nil))) (sa_nil))))) (sa_cons (se_bin o_add (se_var 1) (se_int)) (sa_nil))))))) (ss_nil))
    (ss_cons (ss_if (st_cmp (o_ne (hu_big hr)) (se_sl (se_var 0) (so_some (se_var 1)) (so_some (se_bin o_add (se_var 1) (se_int)))) (se_str)) (ss_one (ss_raise (cn := "NoNote") rfl (takes_of rfl rfl rfl rfl) X_NoNote rfl)) (ss_nil))
    (ss_one (ss_aug 1 io_addI (se_int) nd))))))))))))
set_option maxHeartbeats 4000000 in
theorem ok_read_note {a : Addr} {fd : FuncData} (F : L2.Fun K "read_note" "read_note" s_read_note a fd) {a_in_bounds : Addr} {f_in_bounds : FuncData} (G_in_bounds : FnOk P w K mg base (L2.CX P w) 1 a_in_bounds f_in_bounds P_in_bounds (spD K ct 1 S_in_bounds)) (M_in_bounds : mg "in_bounds" = some (.ref a_in_bounds)) (K_in_bounds : PySem.W.keepIn K (.ref a_in_bounds) = true) (B_in_bounds : Binds K f_in_bounds P_in_bounds []) {a_note_at : Addr} {f_note_at : FuncData} (G_note_at : FnOk P w K mg base (L2.CX P w) 72 a_note_at f_note_at P_note_at (spD K ct 2 (S_note_at 70))) (M_note_at : mg "note_at" = some (.ref a_note_at)) (K_note_at : PySem.W.keepIn K (.ref a_note_at) = true) (B_note_at : Binds K f_note_at P_note_at []) (Z_isinstance : mg "isinstance" = none) (Z_len : mg "len" = none) (Z_str : mg "str" = none) (X_NoNote : XC K mg ct "NoNote") :
    FnOk P w K mg base (L2.CX P w) 73 a fd P_read_note (spD K ct 1 S_read_note) := by
  refine fn_ok (N := N_read_note) (ct := ct) F sc_read_note (by decide) (fun cdv A outer s H G E hr => ?_)
  have nd := sc_read_note.nd
  exact ss_cons (ss_if (st_not (st_val (se_isi (n := "str") (se_var 0) rfl Z_isinstance rfl Z_str (by decide +kernel)))) (ss_one (ss_raise (cn := "NoNote") rfl (takes_of rfl rfl rfl rfl) X_NoNote rfl)) (ss_nil))
    (ss_cons (ss_expr (se_call G_in_bounds (hr.mono (by decide)) (takes_of rfl rfl rfl rfl) rfl M_in_bounds K_in_bounds B_in_bounds (sa_cons (se_var 0) (sa_nil)) (lenA_cons (lenA_nil))))
    (ss_cons (ss_asg (se_call G_note_at (hr.mono (by decide)) (takes_of rfl rfl rfl rfl) rfl M_note_at K_note_at B_note_at (sa_cons (se_var 0) (sa_cons (se_int) (sa_nil))) (lenA_cons (lenA_cons (lenA_nil)))) (sg_tup rfl (sgs_cons (sg_name 1 nd) (sgs_cons (sg_name 2 nd) (sgs_nil)))))
    (ss_cons (ss_if (st_cmp (o_ne (hu_big hr)) (se_var 2) (se_callB (b_len) rfl Z_len (by decide +kernel) (sa_cons (se_var 0) (sa_nil)))) (ss_one (ss_raise (cn := "NoNote") rfl (takes_of rfl rfl rfl rfl) X_NoNote rfl)) (ss_nil))
    (ss_one (ss_ret (se_var 1))))))
set_option maxHeartbeats 4000000 in
theorem ok_show_note {a : Addr} {fd : FuncData} (F : L2.Fun K "show_note" "show_note" s_show_note a fd) {k : Nat} (hk : 0 ≤ k) {c_show_note : List D → R D} {a_show_note : Addr} {f_show_note : FuncData} (G_show_note : FnOk P w K mg base (L2.CX P w) k a_show_note f_show_note P_show_note (spD K ct 1 c_show_note)) (M_show_note : mg "show_note" = some (.ref a_show_note)) (K_show_note : PySem.W.keepIn K (.ref a_show_note) = true) (B_show_note : Binds K f_show_note P_show_note []) :
    FnOk P w K mg base (L2.CX P w) (k + 1) a fd P_show_note (spD K ct 1 (U_show_note c_show_note)) := by
  refine fn_ok (N := N_show_note) (ct := ct) F sc_show_note (by decide) (fun cdv A outer s H G E hr => ?_)
  have nd := sc_show_note.nd
  exact ss_cons (ss_set 1 (se_ix (se_var 0) (se_int)) nd)
    (ss_cons (ss_if (st_cmp (o_ne (hu_big hr)) (se_ix (se_var 0) (se_int)) (se_str)) (ss_one (ss_set 1 (se_bin o_add (se_bin o_add (se_ix (se_var 0) (se_int)) (se_str)) (se_var 1)) nd)) (ss_nil))
    (ss_cons (ss_if (st_cmp o_isN (se_ix (se_var 0) (se_int)) (se_non)) (ss_one (ss_ret (se_var 1))) (ss_nil))
    (ss_one (ss_ret (se_bin o_add (se_bin o_add (se_bin o_add (se_var 1) (se_str)) (se_m1 PySem.F.slot_str_join PySem.F.type_str_join m_join (se_str) (SF.se (sf_lc [("inner", 2)] rfl nd (si_seq (se_ix (se_var 0) (se_int))) (blkOk_by (by change blkC N_show_note (defScope s_show_note) _ _ = true; decide +kernel)) (by decide) (fun _ _ _ _ _ => sg_name 2 nd) (fun _ _ _ _ _ => sts_nil) (fun _ _ _ _ _ => se_call G_show_note (hr) takes0 rfl M_show_note K_show_note B_show_note (sa_cons (se_var 2) (sa_nil)) (lenA_cons (lenA_nil))))))) (se_str))))))
set_option maxHeartbeats 4000000 in
theorem ok_law {a : Addr} {fd : FuncData} (F : L2.Fun K "law" "law" s_law a fd) {a_l_alike : Addr} {f_l_alike : FuncData} (G_l_alike : FnOk P w K mg base (L2.CX P w) 70 a_l_alike f_l_alike P_l_alike (spD K ct 2 (S_l_alike 70))) (M_l_alike : mg "_law_alike" = some (.ref a_l_alike)) (K_l_alike : PySem.W.keepIn K (.ref a_l_alike) = true) (B_l_alike : Binds K f_l_alike P_l_alike []) {a_l_note : Addr} {f_l_note : FuncData} (G_l_note : FnOk P w K mg base (L2.CX P w) 71 a_l_note f_l_note P_l_note (spB K ct 1 (S_l_note 70))) (M_l_note : mg "_law_note" = some (.ref a_l_note)) (K_l_note : PySem.W.keepIn K (.ref a_l_note) = true) (B_l_note : Binds K f_l_note P_l_note []) {a_l_text : Addr} {f_l_text : FuncData} (G_l_text : FnOk P w K mg base (L2.CX P w) 70 a_l_text f_l_text P_l_text (spD K ct 1 (S_l_text 70))) (M_l_text : mg "_law_text" = some (.ref a_l_text)) (K_l_text : PySem.W.keepIn K (.ref a_l_text) = true) (B_l_text : Binds K f_l_text P_l_text []) {a_read_note : Addr} {f_read_note : FuncData} (G_read_note : FnOk P w K mg base (L2.CX P w) 73 a_read_note f_read_note P_read_note (spD K ct 1 S_read_note)) (M_read_note : mg "read_note" = some (.ref a_read_note)) (K_read_note : PySem.W.keepIn K (.ref a_read_note) = true) (B_read_note : Binds K f_read_note P_read_note []) {a_show_note : Addr} {f_show_note : FuncData} (G_show_note : FnOk P w K mg base (L2.CX P w) 70 a_show_note f_show_note P_show_note (spD K ct 1 (S_show_note 70))) (M_show_note : mg "show_note" = some (.ref a_show_note)) (K_show_note : PySem.W.keepIn K (.ref a_show_note) = true) (B_show_note : Binds K f_show_note P_show_note []) (Z_isinstance : mg "isinstance" = none) (Z_list : mg "list" = none) (Z_str : mg "str" = none) :
    FnOk P w K mg base (L2.CX P w) 74 a fd P_law (spD K ct 1 S_law) := by
  refine fn_ok (N := N_law) (ct := ct) F sc_law (by decide) (fun cdv A outer s H G E hr => ?_)
  have nd := sc_law.nd
  exact ss_cons (ss_set 1 (se_callF G_l_note (hr.mono (by decide)) (takes_of rfl rfl rfl rfl) rfl M_l_note K_l_note B_l_note (sf_list rfl rfl Z_list (se_sl (se_var 0) (so_none) (so_some (se_int))) (by decide +kernel)) (sa_cons (se_int) (sa_nil)) (lenA_cons (lenA_nil))) nd)
    (ss_cons (ss_set 2 (se_call G_l_text (hr.mono (by decide)) (takes_of rfl rfl rfl rfl) rfl M_l_text K_l_text B_l_text (sa_cons (se_var 1) (sa_nil)) (lenA_cons (lenA_nil))) nd)
    (ss_cons (ss_if (st_not (st_val (se_call G_l_alike (hr.mono (by decide)) (takes_of rfl rfl rfl rfl) rfl M_l_alike K_l_alike B_l_alike (sa_cons (se_call G_read_note (hr.mono (by decide)) (takes_of rfl rfl rfl rfl) rfl M_read_note K_read_note B_read_note (sa_cons (se_var 2) (sa_nil)) (lenA_cons (lenA_nil))) (sa_cons (se_var 1) (sa_nil))) (lenA_cons (lenA_cons (lenA_nil)))))) (ss_one (ss_ret (se_bl))) (ss_nil))
    (ss_cons (ss_set 3 (se_call G_show_note (hr.mono (by decide)) (takes_of rfl rfl rfl rfl) rfl M_show_note K_show_note B_show_note (sa_cons (se_var 1) (sa_nil)) (lenA_cons (lenA_nil))) nd)
    (ss_one (ss_ret (se_and (se_isi (n := "str") (se_var 3) rfl Z_isinstance rfl Z_str (by decide +kernel)) (se_one (se_cmp (o_eq (hu_big hr)) (se_var 3) (se_var 2)))))))))
end
def ctOf (c_Crowded c_NoNote : Addr) : String → Addr := fun s => if s = "Crowded" then c_Crowded else if s = "NoNote" then c_NoNote else 0
set_option maxHeartbeats 4000000 in
theorem all_mk {l : PySem.W.OpenLaw} {w : World} {K : PySem.W.Frag} {h : Heap} {mg : Str → Option Value} {fa : Addr} (X : K.In h) (G : h.Ns mainGlobals mg) (hfa : mg "law" = some (.ref fa))
    {q4 : Tok}
    {q3 : Tok}
    {q2 : Tok}
    {q1 : Tok}
    {q0 : Tok}
    {c_Crowded c_NoNote : Addr}
    {a_l_alike : Addr} {od0 an0 : Option Addr} {sl0 : Array (Option Value)} {oc0 kV0 dc0 pm0 cd0 ct0 : Value}
    {a_l_take : Addr} {od1 an1 : Option Addr} {sl1 : Array (Option Value)} {oc1 kV1 dc1 pm1 cd1 ct1 : Value}
    {a_l_word : Addr} {od2 an2 : Option Addr} {sl2 : Array (Option Value)} {oc2 kV2 dc2 pm2 cd2 ct2 : Value}
    {a_l_note : Addr} {od3 an3 : Option Addr} {sl3 : Array (Option Value)} {oc3 kV3 dc3 pm3 cd3 ct3 : Value}
    {a_l_text : Addr} {od4 an4 : Option Addr} {sl4 : Array (Option Value)} {oc4 kV4 dc4 pm4 cd4 ct4 : Value}
    {a_in_bounds : Addr} {od5 an5 : Option Addr} {sl5 : Array (Option Value)} {oc5 kV5 dc5 pm5 cd5 ct5 : Value}
    {a_is_mark : Addr} {od6 an6 : Option Addr} {sl6 : Array (Option Value)} {oc6 kV6 dc6 pm6 cd6 ct6 : Value}
    {a_is_word : Addr} {od7 an7 : Option Addr} {sl7 : Array (Option Value)} {oc7 kV7 dc7 pm7 cd7 ct7 : Value}
    {a_head_of : Addr} {od8 an8 : Option Addr} {sl8 : Array (Option Value)} {oc8 kV8 dc8 pm8 cd8 ct8 : Value}
    {a_note_at : Addr} {od9 an9 : Option Addr} {sl9 : Array (Option Value)} {oc9 kV9 dc9 pm9 cd9 ct9 : Value}
    {a_read_note : Addr} {od10 an10 : Option Addr} {sl10 : Array (Option Value)} {oc10 kV10 dc10 pm10 cd10 ct10 : Value}
    {a_show_note : Addr} {od11 an11 : Option Addr} {sl11 : Array (Option Value)} {oc11 kV11 dc11 pm11 cd11 ct11 : Value}
    {a_law : Addr} {od12 an12 : Option Addr} {sl12 : Array (Option Value)} {oc12 kV12 dc12 pm12 cd12 ct12 : Value}
    (N_0 : PySem.W.nsIn K mainGlobals "_law_alike" = some (some (.ref a_l_alike)))
    (L_0 : K.lookup a_l_alike = some ⟨oc0, od0, .func (PySem.W.fnOf "_law_alike" "_law_alike" (defArgs s_l_alike) (defBody s_l_alike) (defScope s_l_alike) .none kV0 dc0 pm0 an0 cd0 ct0), sl0⟩)
    (C_0 : PySem.W.codeIn K cd0 "_law_alike" = true)
    (K_l_alike : PySem.W.keepIn K (.ref a_l_alike) = true)
    (N_1 : PySem.W.nsIn K mainGlobals "_law_take" = some (some (.ref a_l_take)))
    (L_1 : K.lookup a_l_take = some ⟨oc1, od1, .func (PySem.W.fnOf "_law_take" "_law_take" (defArgs s_l_take) (defBody s_l_take) (defScope s_l_take) .none kV1 dc1 pm1 an1 cd1 ct1), sl1⟩)
    (C_1 : PySem.W.codeIn K cd1 "_law_take" = true)
    (K_l_take : PySem.W.keepIn K (.ref a_l_take) = true)
    (N_2 : PySem.W.nsIn K mainGlobals "_law_word" = some (some (.ref a_l_word)))
    (L_2 : K.lookup a_l_word = some ⟨oc2, od2, .func (PySem.W.fnOf "_law_word" "_law_word" (defArgs s_l_word) (defBody s_l_word) (defScope s_l_word) .none kV2 dc2 pm2 an2 cd2 ct2), sl2⟩)
    (C_2 : PySem.W.codeIn K cd2 "_law_word" = true)
    (K_l_word : PySem.W.keepIn K (.ref a_l_word) = true)
    (N_3 : PySem.W.nsIn K mainGlobals "_law_note" = some (some (.ref a_l_note)))
    (L_3 : K.lookup a_l_note = some ⟨oc3, od3, .func (PySem.W.fnOf "_law_note" "_law_note" (defArgs s_l_note) (defBody s_l_note) (defScope s_l_note) .none kV3 dc3 pm3 an3 cd3 ct3), sl3⟩)
    (C_3 : PySem.W.codeIn K cd3 "_law_note" = true)
    (K_l_note : PySem.W.keepIn K (.ref a_l_note) = true)
    (N_4 : PySem.W.nsIn K mainGlobals "_law_text" = some (some (.ref a_l_text)))
    (L_4 : K.lookup a_l_text = some ⟨oc4, od4, .func (PySem.W.fnOf "_law_text" "_law_text" (defArgs s_l_text) (defBody s_l_text) (defScope s_l_text) .none kV4 dc4 pm4 an4 cd4 ct4), sl4⟩)
    (C_4 : PySem.W.codeIn K cd4 "_law_text" = true)
    (K_l_text : PySem.W.keepIn K (.ref a_l_text) = true)
    (N_5 : PySem.W.nsIn K mainGlobals "in_bounds" = some (some (.ref a_in_bounds)))
    (L_5 : K.lookup a_in_bounds = some ⟨oc5, od5, .func (PySem.W.fnOf "in_bounds" "in_bounds" (defArgs s_in_bounds) (defBody s_in_bounds) (defScope s_in_bounds) .none kV5 dc5 pm5 an5 cd5 ct5), sl5⟩)
    (C_5 : PySem.W.codeIn K cd5 "in_bounds" = true)
    (K_in_bounds : PySem.W.keepIn K (.ref a_in_bounds) = true)
    (N_6 : PySem.W.nsIn K mainGlobals "is_mark" = some (some (.ref a_is_mark)))
    (L_6 : K.lookup a_is_mark = some ⟨oc6, od6, .func (PySem.W.fnOf "is_mark" "is_mark" (defArgs s_is_mark) (defBody s_is_mark) (defScope s_is_mark) .none kV6 dc6 pm6 an6 cd6 ct6), sl6⟩)
    (C_6 : PySem.W.codeIn K cd6 "is_mark" = true)
    (K_is_mark : PySem.W.keepIn K (.ref a_is_mark) = true)
    (N_7 : PySem.W.nsIn K mainGlobals "is_word" = some (some (.ref a_is_word)))
    (L_7 : K.lookup a_is_word = some ⟨oc7, od7, .func (PySem.W.fnOf "is_word" "is_word" (defArgs s_is_word) (defBody s_is_word) (defScope s_is_word) .none kV7 dc7 pm7 an7 cd7 ct7), sl7⟩)
    (C_7 : PySem.W.codeIn K cd7 "is_word" = true)
    (K_is_word : PySem.W.keepIn K (.ref a_is_word) = true)
    (N_8 : PySem.W.nsIn K mainGlobals "head_of" = some (some (.ref a_head_of)))
    (L_8 : K.lookup a_head_of = some ⟨oc8, od8, .func (PySem.W.fnOf "head_of" "head_of" (defArgs s_head_of) (defBody s_head_of) (defScope s_head_of) .none kV8 dc8 pm8 an8 cd8 ct8), sl8⟩)
    (C_8 : PySem.W.codeIn K cd8 "head_of" = true)
    (K_head_of : PySem.W.keepIn K (.ref a_head_of) = true)
    (N_9 : PySem.W.nsIn K mainGlobals "note_at" = some (some (.ref a_note_at)))
    (L_9 : K.lookup a_note_at = some ⟨oc9, od9, .func (PySem.W.fnOf "note_at" "note_at" (defArgs s_note_at) (defBody s_note_at) (defScope s_note_at) .none kV9 dc9 pm9 an9 cd9 ct9), sl9⟩)
    (C_9 : PySem.W.codeIn K cd9 "note_at" = true)
    (K_note_at : PySem.W.keepIn K (.ref a_note_at) = true)
    (N_10 : PySem.W.nsIn K mainGlobals "read_note" = some (some (.ref a_read_note)))
    (L_10 : K.lookup a_read_note = some ⟨oc10, od10, .func (PySem.W.fnOf "read_note" "read_note" (defArgs s_read_note) (defBody s_read_note) (defScope s_read_note) .none kV10 dc10 pm10 an10 cd10 ct10), sl10⟩)
    (C_10 : PySem.W.codeIn K cd10 "read_note" = true)
    (K_read_note : PySem.W.keepIn K (.ref a_read_note) = true)
    (N_11 : PySem.W.nsIn K mainGlobals "show_note" = some (some (.ref a_show_note)))
    (L_11 : K.lookup a_show_note = some ⟨oc11, od11, .func (PySem.W.fnOf "show_note" "show_note" (defArgs s_show_note) (defBody s_show_note) (defScope s_show_note) .none kV11 dc11 pm11 an11 cd11 ct11), sl11⟩)
    (C_11 : PySem.W.codeIn K cd11 "show_note" = true)
    (K_show_note : PySem.W.keepIn K (.ref a_show_note) = true)
    (N_12 : PySem.W.nsIn K mainGlobals "law" = some (some (.ref a_law)))
    (L_12 : K.lookup a_law = some ⟨oc12, od12, .func (PySem.W.fnOf "law" "law" (defArgs s_law) (defBody s_law) (defScope s_law) .none kV12 dc12 pm12 an12 cd12 ct12), sl12⟩)
    (C_12 : PySem.W.codeIn K cd12 "law" = true)
    (K_law : PySem.W.keepIn K (.ref a_law) = true)
    (Y_all : PySem.W.nsIn K mainGlobals "all" = some none)
    (Y_isinstance : PySem.W.nsIn K mainGlobals "isinstance" = some none)
    (Y_len : PySem.W.nsIn K mainGlobals "len" = some none)
    (Y_list : PySem.W.nsIn K mainGlobals "list" = some none)
    (Y_max : PySem.W.nsIn K mainGlobals "max" = some none)
    (Y_range : PySem.W.nsIn K mainGlobals "range" = some none)
    (Y_str : PySem.W.nsIn K mainGlobals "str" = some none)
    (Y_tuple : PySem.W.nsIn K mainGlobals "tuple" = some none)
    (Y_zip : PySem.W.nsIn K mainGlobals "zip" = some none)
    (Cn_FIGURES : PySem.W.nsIn K mainGlobals "FIGURES" = some (some (.str (Str.ofString "0123456789") q0)))
    (Cn_GREAT : PySem.W.nsIn K mainGlobals "GREAT" = some (some (.str (Str.ofString "ABCDEFGHIJKLMNOPQRSTUVWXYZ") q1)))
    (Cn_LETTERS : PySem.W.nsIn K mainGlobals "LETTERS" = some (some (.str (Str.ofString "abcdefghijklmnopqrstuvwxyz") q2)))
    (Cn_MOST_OPEN : PySem.W.nsIn K mainGlobals "MOST_OPEN" = some (some (.int 6 q3)))
    (Cn_MOST_SIGNS : PySem.W.nsIn K mainGlobals "MOST_SIGNS" = some (some (.int 2000 q4)))
    (Cg_Crowded : PySem.W.nsIn K mainGlobals "Crowded" = some (some (.ref c_Crowded)))
    (Ck_Crowded : PySem.W.keepIn K (.ref c_Crowded) = true)
    (Cq_Crowded : PySem.W.excIn K c_Crowded [.type "ValueError", .type "Exception", .type "BaseException", .type "object"] "ValueError.__new__" = true)
    (Cb_Crowded : PySem.W.subIn K (.ref c_Crowded) (.type "BaseException") = some true)
    (Ct_Crowded : PySem.W.typeIn K (.ref c_Crowded) = some (.type "type"))
    (Cd_Crowded : PySem.W.hasDictIn K c_Crowded = true)
    (Cg_NoNote : PySem.W.nsIn K mainGlobals "NoNote" = some (some (.ref c_NoNote)))
    (Ck_NoNote : PySem.W.keepIn K (.ref c_NoNote) = true)
    (Cq_NoNote : PySem.W.excIn K c_NoNote [.type "ValueError", .type "Exception", .type "BaseException", .type "object"] "ValueError.__new__" = true)
    (Cb_NoNote : PySem.W.subIn K (.ref c_NoNote) (.type "BaseException") = some true)
    (Ct_NoNote : PySem.W.typeIn K (.ref c_NoNote) = some (.type "type"))
    (Cd_NoNote : PySem.W.hasDictIn K c_NoNote = true) :
    ∃ fd : FuncData, (∀ (s : Shared) (v : Value), BindsTo s fd ⟨[v], []⟩ [("_law_script", v)]) ∧ ∀ base : Heap, K.In base → base.Ns mainGlobals mg → FnOk l.prog w K mg base (L2.CX l.prog w) 74 fa fd ["_law_script"] (spD K (fun _ => 0) 1 (hush S_law)) := by
  have e := hfa.symm.trans (PySem.W.mg_of X G N_12)
  cases e
  have F_l_alike := fun_mk (st := s_l_alike) L_0 C_0 K_l_alike
  have B_l_alike := F_l_alike.binds (ps := P_l_alike) fun _ _ _ _ _ _ us hl => match us, hl with | [_, _], _ => rfl
  have M_l_alike := PySem.W.mg_of X G N_0
  have F_l_take := fun_mk (st := s_l_take) L_1 C_1 K_l_take
  have B_l_take := F_l_take.binds (ps := P_l_take) fun _ _ _ _ _ _ us hl => match us, hl with | [_, _], _ => rfl
  have M_l_take := PySem.W.mg_of X G N_1
  have F_l_word := fun_mk (st := s_l_word) L_2 C_2 K_l_word
  have B_l_word := F_l_word.binds (ps := P_l_word) fun _ _ _ _ _ _ us hl => match us, hl with | [_, _, _], _ => rfl
  have M_l_word := PySem.W.mg_of X G N_2
  have F_l_note := fun_mk (st := s_l_note) L_3 C_3 K_l_note
  have B_l_note := F_l_note.binds (ps := P_l_note) fun _ _ _ _ _ _ us hl => match us, hl with | [_, _], _ => rfl
  have M_l_note := PySem.W.mg_of X G N_3
  have F_l_text := fun_mk (st := s_l_text) L_4 C_4 K_l_text
  have B_l_text := F_l_text.binds (ps := P_l_text) fun _ _ _ _ _ _ us hl => match us, hl with | [_], _ => rfl
  have M_l_text := PySem.W.mg_of X G N_4
  have F_in_bounds := fun_mk (st := s_in_bounds) L_5 C_5 K_in_bounds
  have B_in_bounds := F_in_bounds.binds (ps := P_in_bounds) fun _ _ _ _ _ _ us hl => match us, hl with | [_], _ => rfl
  have M_in_bounds := PySem.W.mg_of X G N_5
  have F_is_mark := fun_mk (st := s_is_mark) L_6 C_6 K_is_mark
  have B_is_mark := F_is_mark.binds (ps := P_is_mark) fun _ _ _ _ _ _ us hl => match us, hl with | [_], _ => rfl
  have M_is_mark := PySem.W.mg_of X G N_6
  have F_is_word := fun_mk (st := s_is_word) L_7 C_7 K_is_word
  have B_is_word := F_is_word.binds (ps := P_is_word) fun _ _ _ _ _ _ us hl => match us, hl with | [_], _ => rfl
  have M_is_word := PySem.W.mg_of X G N_7
  have F_head_of := fun_mk (st := s_head_of) L_8 C_8 K_head_of
  have B_head_of := F_head_of.binds (ps := P_head_of) fun _ _ _ _ _ _ us hl => match us, hl with | [_, _], _ => rfl
  have M_head_of := PySem.W.mg_of X G N_8
  have F_note_at := fun_mk (st := s_note_at) L_9 C_9 K_note_at
  have B_note_at := F_note_at.binds (ps := P_note_at) fun _ _ _ _ _ _ us hl => match us, hl with | [_, _], _ => rfl
  have M_note_at := PySem.W.mg_of X G N_9
  have F_read_note := fun_mk (st := s_read_note) L_10 C_10 K_read_note
  have B_read_note := F_read_note.binds (ps := P_read_note) fun _ _ _ _ _ _ us hl => match us, hl with | [_], _ => rfl
  have M_read_note := PySem.W.mg_of X G N_10
  have F_show_note := fun_mk (st := s_show_note) L_11 C_11 K_show_note
  have B_show_note := F_show_note.binds (ps := P_show_note) fun _ _ _ _ _ _ us hl => match us, hl with | [_], _ => rfl
  have M_show_note := PySem.W.mg_of X G N_11
  have F_law := fun_mk (st := s_law) L_12 C_12 K_law
  have B_law := F_law.binds (ps := P_law) fun _ _ _ _ _ _ us hl => match us, hl with | [_], _ => rfl
  have M_law := PySem.W.mg_of X G N_12
  have Z_all := PySem.W.mg_none_of X G Y_all
  have Z_isinstance := PySem.W.mg_none_of X G Y_isinstance
  have Z_len := PySem.W.mg_none_of X G Y_len
  have Z_list := PySem.W.mg_none_of X G Y_list
  have Z_max := PySem.W.mg_none_of X G Y_max
  have Z_range := PySem.W.mg_none_of X G Y_range
  have Z_str := PySem.W.mg_none_of X G Y_str
  have Z_tuple := PySem.W.mg_none_of X G Y_tuple
  have Z_zip := PySem.W.mg_none_of X G Y_zip
  have CN_FIGURES : KC K mg "FIGURES" (.str (Str.ofString "0123456789")) := ⟨.str (Str.ofString "0123456789"), _, PySem.W.mg_of X G Cn_FIGURES, ⟨_, rfl⟩, fun G => .str _⟩
  have CN_GREAT : KC K mg "GREAT" (.str (Str.ofString "ABCDEFGHIJKLMNOPQRSTUVWXYZ")) := ⟨.str (Str.ofString "ABCDEFGHIJKLMNOPQRSTUVWXYZ"), _, PySem.W.mg_of X G Cn_GREAT, ⟨_, rfl⟩, fun G => .str _⟩
  have CN_LETTERS : KC K mg "LETTERS" (.str (Str.ofString "abcdefghijklmnopqrstuvwxyz")) := ⟨.str (Str.ofString "abcdefghijklmnopqrstuvwxyz"), _, PySem.W.mg_of X G Cn_LETTERS, ⟨_, rfl⟩, fun G => .str _⟩
  have CN_MOST_OPEN : KC K mg "MOST_OPEN" (.int 6) := ⟨.int 6, _, PySem.W.mg_of X G Cn_MOST_OPEN, ⟨_, rfl⟩, fun G => .int _⟩
  have CN_MOST_SIGNS : KC K mg "MOST_SIGNS" (.int 2000) := ⟨.int 2000, _, PySem.W.mg_of X G Cn_MOST_SIGNS, ⟨_, rfl⟩, fun G => .int _⟩
  have X_Crowded : XC K mg (ctOf c_Crowded c_NoNote) "Crowded" := ⟨PySem.W.mg_of X G Cg_Crowded, Ck_Crowded, Cq_Crowded, Cb_Crowded, Ct_Crowded, Cd_Crowded⟩
  have X_NoNote : XC K mg (ctOf c_Crowded c_NoNote) "NoNote" := ⟨PySem.W.mg_of X G Cg_NoNote, Ck_NoNote, Cq_NoNote, Cb_NoNote, Ct_NoNote, Cd_NoNote⟩
  refine ⟨PySem.W.fnOf "law" "law" (defArgs s_law) (defBody s_law) (defScope s_law) .none kV12 dc12 pm12 an12 cd12 ct12, fun s v => .of_eq rfl, fun base _ _ => ?_⟩
  have Q_l_alike : ∀ n : Nat, FnOk l.prog w K mg base (L2.CX l.prog w) (0 + n) a_l_alike (PySem.W.fnOf "_law_alike" "_law_alike" (defArgs s_l_alike) (defBody s_l_alike) (defScope s_l_alike) .none kV0 dc0 pm0 an0 cd0 ct0) P_l_alike (spD K (ctOf c_Crowded c_NoNote) 2 (S_l_alike n)) := by
    intro n
    induction n with
    | zero => exact (fn_zero (ps := P_l_alike)).mono (Nat.zero_le _)
    | succ n ih =>
      have G_l_alike := ih
      exact ok_l_alike (P := l.prog) (w := w) (mg := mg) (base := base) (ct := (ctOf c_Crowded c_NoNote)) F_l_alike (Nat.le_add_right _ _) G_l_alike M_l_alike K_l_alike B_l_alike Z_all Z_isinstance Z_len Z_str Z_tuple Z_zip
  have G_l_alike := Q_l_alike 70
  have G_l_take := ok_l_take (P := l.prog) (w := w) (mg := mg) (base := base) (ct := (ctOf c_Crowded c_NoNote)) F_l_take
  have G_l_word := ok_l_word (P := l.prog) (w := w) (mg := mg) (base := base) (ct := (ctOf c_Crowded c_NoNote)) F_l_word Z_len Z_range
  have Q_l_note : ∀ n : Nat, FnOk l.prog w K mg base (L2.CX l.prog w) (1 + n) a_l_note (PySem.W.fnOf "_law_note" "_law_note" (defArgs s_l_note) (defBody s_l_note) (defScope s_l_note) .none kV3 dc3 pm3 an3 cd3 ct3) P_l_note (spB K (ctOf c_Crowded c_NoNote) 1 (S_l_note n)) := by
    intro n
    induction n with
    | zero => exact (fn_zeroB (ps := P_l_note) rfl).mono (Nat.zero_le _)
    | succ n ih =>
      have G_l_note := ih
      exact ok_l_note (P := l.prog) (w := w) (mg := mg) (base := base) (ct := (ctOf c_Crowded c_NoNote)) F_l_note (Nat.le_add_right _ _) G_l_note M_l_note K_l_note B_l_note G_l_take M_l_take K_l_take B_l_take G_l_word M_l_word K_l_word B_l_word Z_range Z_tuple
  have G_l_note := Q_l_note 70
  have Q_l_text : ∀ n : Nat, FnOk l.prog w K mg base (L2.CX l.prog w) (0 + n) a_l_text (PySem.W.fnOf "_law_text" "_law_text" (defArgs s_l_text) (defBody s_l_text) (defScope s_l_text) .none kV4 dc4 pm4 an4 cd4 ct4) P_l_text (spD K (ctOf c_Crowded c_NoNote) 1 (S_l_text n)) := by
    intro n
    induction n with
    | zero => exact (fn_zero (ps := P_l_text)).mono (Nat.zero_le _)
    | succ n ih =>
      have G_l_text := ih
      exact ok_l_text (P := l.prog) (w := w) (mg := mg) (base := base) (ct := (ctOf c_Crowded c_NoNote)) F_l_text (Nat.le_add_right _ _) G_l_text M_l_text K_l_text B_l_text
  have G_l_text := Q_l_text 70
  have G_in_bounds := ok_in_bounds (P := l.prog) (w := w) (mg := mg) (base := base) (ct := (ctOf c_Crowded c_NoNote)) F_in_bounds Z_len Z_max CN_MOST_OPEN CN_MOST_SIGNS X_Crowded
  have G_is_mark := ok_is_mark (P := l.prog) (w := w) (mg := mg) (base := base) (ct := (ctOf c_Crowded c_NoNote)) F_is_mark Z_all Z_len CN_LETTERS
  have G_is_word := ok_is_word (P := l.prog) (w := w) (mg := mg) (base := base) (ct := (ctOf c_Crowded c_NoNote)) F_is_word Z_all Z_len CN_FIGURES CN_GREAT CN_LETTERS
  have G_head_of := ok_head_of (P := l.prog) (w := w) (mg := mg) (base := base) (ct := (ctOf c_Crowded c_NoNote)) F_head_of G_is_mark M_is_mark K_is_mark B_is_mark G_is_word M_is_word K_is_word B_is_word Z_len X_NoNote
  have Q_note_at : ∀ n : Nat, FnOk l.prog w K mg base (L2.CX l.prog w) (2 + n) a_note_at (PySem.W.fnOf "note_at" "note_at" (defArgs s_note_at) (defBody s_note_at) (defScope s_note_at) .none kV9 dc9 pm9 an9 cd9 ct9) P_note_at (spD K (ctOf c_Crowded c_NoNote) 2 (S_note_at n)) := by
    intro n
    induction n with
    | zero => exact (fn_zero (ps := P_note_at)).mono (Nat.zero_le _)
    | succ n ih =>
      have G_note_at := ih
      exact ok_note_at (P := l.prog) (w := w) (mg := mg) (base := base) (ct := (ctOf c_Crowded c_NoNote)) F_note_at (Nat.le_add_right _ _) G_head_of M_head_of K_head_of B_head_of G_note_at M_note_at K_note_at B_note_at Z_tuple X_NoNote
  have G_note_at := Q_note_at 70
  have G_read_note := ok_read_note (P := l.prog) (w := w) (mg := mg) (base := base) (ct := (ctOf c_Crowded c_NoNote)) F_read_note G_in_bounds M_in_bounds K_in_bounds B_in_bounds G_note_at M_note_at K_note_at B_note_at Z_isinstance Z_len Z_str X_NoNote
  have Q_show_note : ∀ n : Nat, FnOk l.prog w K mg base (L2.CX l.prog w) (0 + n) a_show_note (PySem.W.fnOf "show_note" "show_note" (defArgs s_show_note) (defBody s_show_note) (defScope s_show_note) .none kV11 dc11 pm11 an11 cd11 ct11) P_show_note (spD K (ctOf c_Crowded c_NoNote) 1 (S_show_note n)) := by
    intro n
    induction n with
    | zero => exact (fn_zero (ps := P_show_note)).mono (Nat.zero_le _)
    | succ n ih =>
      have G_show_note := ih
      exact ok_show_note (P := l.prog) (w := w) (mg := mg) (base := base) (ct := (ctOf c_Crowded c_NoNote)) F_show_note (Nat.le_add_right _ _) G_show_note M_show_note K_show_note B_show_note
  have G_show_note := Q_show_note 70
  have G_law := ok_law (P := l.prog) (w := w) (mg := mg) (base := base) (ct := (ctOf c_Crowded c_NoNote)) F_law G_l_alike M_l_alike K_l_alike B_l_alike G_l_note M_l_note K_l_note B_l_note G_l_text M_l_text K_l_text B_l_text G_read_note M_read_note K_read_note B_read_note G_show_note M_show_note K_show_note B_show_note Z_isinstance Z_list Z_str
  exact fn_hush G_law
end Law

namespace Law
open PySem L2 Fs MCh
/-! == of data -/
def eqk (k : Nat) (d : D) : Prop := ∃ p, toPy d = some p ∧ p.canLay0 = true ∧ p.depth ≤ k
theorem eqk_int (k : Nat) (i : Int) : eqk k (.int i) := ⟨.int i, by simp [toPy], by simp [PyData.canLay0], by simp [PyData.depth]⟩
theorem eqk_str (k : Nat) {z : Str} (h : PyData.canLay0 (.str z) = true) : eqk k (.str z) := ⟨.str z, by simp [toPy], h, by simp [PyData.depth]⟩
theorem eqk_up {k l : Nat} {d : D} (h : eqk k d) (hl : k ≤ l) : eqk l d := by
  obtain ⟨p, h1, h2, h3⟩ := h
  exact ⟨p, h1, h2, Nat.le_trans h3 hl⟩
theorem eqk_tup {k : Nat} {v u : D} (h : eqk k v) (h2 : eqk k u) : eqk (k + 1) (.tup [v, u]) := by
  obtain ⟨p, a1, a2, a3⟩ := h
  obtain ⟨q, b1, b2, b3⟩ := h2
  exact ⟨.tuple [p, q], by simp [toPy, toPyL, a1, b1], by simp [PyData.canLay0, PyData.canLayAll0, a2, b2], by simp [PyData.depth, PyData.depthAll]; omega⟩
theorem eqk_all {k : Nat} : ∀ {xs : List D}, (∀ x ∈ xs, eqk k x) → ∃ ps, toPyL xs = some ps ∧ PyData.canLayAll0 ps = true ∧ PyData.depthAll ps ≤ k
  | [], _ => ⟨[], by simp [toPyL], by simp [PyData.canLayAll0], by simp [PyData.depthAll]⟩
  | x :: xs, h => by
    obtain ⟨p, a1, a2, a3⟩ := h x (by simp)
    obtain ⟨ps, b1, b2, b3⟩ := eqk_all (xs := xs) fun y hy => h y (by simp [hy])
    exact ⟨p :: ps, by simp [toPyL, a1, b1], by simp [PyData.canLayAll0, a2, b2], by simp [PyData.depthAll]; omega⟩
theorem eqk_lst {k : Nat} {xs : List D} (h : ∀ x ∈ xs, eqk k x) : eqk (k + 1) (.lst xs) := by
  obtain ⟨ps, b1, b2, b3⟩ := eqk_all h
  exact ⟨.list ps, by simp [toPy, b1], by simpa [PyData.canLay0] using b2, by simp [PyData.depth]; omega⟩
theorem eqO_self {xs : List D} {k : Nat} (h : eqk k (.lst xs)) (hk : k ≤ 60) : eqO (.lst xs) (.lst xs) = some true := by
  obtain ⟨p, h1, h2, h3⟩ := h
  have e : eqO (.lst xs) (.lst xs) = eqPy (.lst xs) (.lst xs) := by simp [eqO]
  rw [e]
  unfold eqPy
  rw [h1]
  have hs : SeqAt.shaped p = true := by
    simp [SeqAt.shaped, h2]
    omega
  simp [hs, SeqAt.eqv_refl p h2]
theorem eqk_bl (k : Nat) (b : Bool) : eqk k (.bl b) := ⟨.bool b, by simp [toPy], rfl, by simp [PyData.depth]⟩
theorem eqk_tupL {k : Nat} {xs : List D} (h : ∀ x ∈ xs, eqk k x) : eqk (k + 1) (.tup xs) := by
  obtain ⟨ps, b1, b2, b3⟩ := eqk_all h
  exact ⟨.tuple ps, by simp [toPy, b1], by simpa [PyData.canLay0] using b2, by simp [PyData.depth]; omega⟩
theorem eqO_nil {k : Nat} {xs : List D} (h : eqk k (.lst xs)) (hk : k ≤ 60) : eqO (.lst xs) (.lst []) = some (decide (xs = [])) := by
  obtain ⟨p, h1, h2, h3⟩ := h
  have e : eqO (.lst xs) (.lst []) = eqPy (.lst xs) (.lst []) := by simp [eqO]
  rw [e]
  unfold eqPy
  rw [h1]
  have hs : SeqAt.shaped p = true := by
    simp [SeqAt.shaped, h2]
    omega
  have hn : toPy (.lst []) = some (.list []) := by simp [toPy, toPyL]
  have hs2 : SeqAt.shaped (.list []) = true := by simp [SeqAt.shaped, PyData.canLay0, PyData.canLayAll0, PyData.depth, PyData.depthAll]
  rw [hn]
  simp only [hs, hs2, Bool.and_self, if_true]
  simp only [toPy] at h1
  cases xs with
  | nil =>
    simp [toPyL] at h1
    subst h1
    simp [PyData.eqv, PyData.eqvAll]
  | cons x xs =>
    simp only [toPyL] at h1
    cases hx : toPy x with
    | none => rw [hx] at h1; simp at h1
    | some q =>
      cases hy : toPyL xs with
      | none => rw [hx, hy] at h1; simp at h1
      | some qs =>
        rw [hx, hy] at h1
        simp at h1
        subst h1
        simp [PyData.eqv, PyData.eqvAll]
theorem eq_nil {k : Nat} {xs : List D} (h : eqk k (.lst xs)) (hk : k ≤ 60) : gEq (.lst xs) (.lst []) = some (.bl (decide (xs = []))) := by simp [gEq, eqO_nil h hk]
theorem lcD_filterL {α : Type} {p : Pt} {c : T} {e : E} {δ : Sl} (g : α → D) (q : α → Bool) : ∀ l : List α, (∀ a ∈ l, ∃ δ1, bindP p (g a) δ = some δ1 ∧ c δ1 = .ok (q a) ∧ e δ1 = .ok (g a)) → lcD p c e δ (l.map g) = .ok ((l.filter q).map g)
  | [], _ => rfl
  | x :: l, h => by
    obtain ⟨δ1, e1, e2, e3⟩ := h x (by simp)
    have ih := lcD_filterL g q l fun k hk => h k (by simp [hk])
    cases hq : q x
    · rw [hq] at e2
      simp only [List.map_cons, lcD, e1, e2, ih, List.filter_cons, hq, Bool.false_eq_true, if_false]
    · rw [hq] at e2
      simp only [List.map_cons, lcD, e1, e2, e3, ih, List.filter_cons, hq, if_true]
end Law

/-! VNt: texts as lists of signs; notes: shown, read again. -/
namespace Law
open PySem L2 Fs MCh
/-- the text of these signs -/
def St (l : List Nat) : Str := ⟨l.toArray⟩
@[simp] theorem St_tl (l : List Nat) : (St l).cps.toList = l := id rfl
theorem tl_St (x : Str) : St x.cps.toList = x := TL.mk_tl x
theorem St_eq {a b : List Nat} : (St a = St b) = (a = b) := by
  refine propext ⟨fun h => ?_, fun h => by rw [h]⟩
  have := congrArg (fun x : Str => x.cps.toList) h
  simpa using this
@[simp] theorem St_len (l : List Nat) : (St l).length = l.length := by simp [St, Str.length]
@[simp] theorem St_cat (a b : List Nat) : St a ++ St b = St (a ++ b) := TL.ext_tl (TL.tl_append (St a) (St b))
theorem of_St {x : Str} {l : List Nat} (h : x.cps.toList = l) : x = St l := by rw [← h, tl_St]
@[simp] theorem c_nil : Str.ofString "" = St [] := of_St (by decide +kernel)
@[simp] theorem c_opn : Str.ofString "(" = St [40] := of_St (by decide +kernel)
@[simp] theorem c_cls : Str.ofString ")" = St [41] := of_St (by decide +kernel)
@[simp] theorem c_com : Str.ofString "," = St [44] := of_St (by decide +kernel)
@[simp] theorem c_col : Str.ofString ":" = St [58] := of_St (by decide +kernel)
@[simp] theorem c_stop : Str.ofString "()," = St [40, 41, 44] := of_St (by decide +kernel)
def lets : List Nat := (List.range 26).map (97 + ·)
def grts : List Nat := (List.range 26).map (65 + ·)
def figs : List Nat := (List.range 10).map (48 + ·)
@[simp] theorem c_lets : Str.ofString "abcdefghijklmnopqrstuvwxyz" = St lets := of_St (by decide +kernel)
@[simp] theorem c_grts : Str.ofString "ABCDEFGHIJKLMNOPQRSTUVWXYZ" = St grts := of_St (by decide +kernel)
@[simp] theorem c_figs : Str.ofString "0123456789" = St figs := of_St (by decide +kernel)
@[simp] theorem c_dash : Str.ofString "-" = St [45] := of_St (by decide +kernel)
def wsig : List Nat := lets ++ grts ++ figs ++ [45]
@[simp] theorem sg_St (l : List Nat) : signs (St l) = l.map fun c => .str (St [c]) := id rfl
@[simp] theorem v_eqS (x y : Str) : gEq (.str x) (.str y) = some (.bl (decide (x = y))) := by simp [gEq, eqO]
@[simp] theorem v_neS (x y : Str) : gNe (.str x) (.str y) = some (.bl (!decide (x = y))) := by simp [gNe, eqO]
@[simp] theorem v_inS (c : Nat) (l : List Nat) : gIn (.str (St [c])) (.str (St l)) = some (.bl (decide (c ∈ l))) := id rfl
@[simp] theorem v_ninS (c : Nat) (l : List Nat) : gNin (.str (St [c])) (.str (St l)) = some (.bl (!decide (c ∈ l))) := id rfl
@[simp] theorem v_addS (a b : List Nat) : gAdd (.str (St a)) (.str (St b)) = if a.length + b.length ≤ sizeLine then some (.str (St (a ++ b))) else none := by
  simp only [gAdd, St_len, St_cat]
@[simp] theorem v_lenSt (a : List Nat) : gLen [.str (St a)] = if a.length ≤ sizeLine then some (.int a.length) else none := by simp
@[simp] theorem v_slS (a : List Nat) (lo hi : Option Int) : gSl (.str (St a)) lo hi = if a.length ≤ sizeLine then some (.str (St (cutL a lo hi))) else none := by
  have e : cutS (St a) lo hi = St (cutL a lo hi) := of_St (by simp [cutS, cutL])
  simp only [gSl, St_len, e]
theorem v_ixS (a : List Nat) (i : Int) : gIx (.str (St a)) (.int i) = if a.length ≤ sizeLine then (atI a i).map fun c => .str (St [c]) else none := by
  simp only [gIx, St_len, St_tl]
  rfl
@[simp] theorem isN_non : gIsN .non .non = some (.bl true) := id rfl
@[simp] theorem isN_str (x : Str) : gIsN (.str x) .non = some (.bl false) := id rfl
@[simp] theorem isN_tup (x : List D) : gIsN (.tup x) .non = some (.bl false) := id rfl
@[simp] theorem v_eM1 (g : D → List D → Option D) (o a : E) (δ : Sl) : eM1 g o a δ = (o δ).bind fun x => if isStr x then (a δ).bind fun y => R.ofO (g x [y]) else .stk := id rfl
@[simp] theorem v_isStr (x : Str) : isStr (.str x) = true := id rfl
/-! words, labels -/
def isW (w : List Nat) : Bool := decide (1 ≤ w.length ∧ w.length ≤ 62) && w.all fun c => decide (c ∈ wsig)
def isM (w : List Nat) : Bool := decide (1 ≤ w.length ∧ w.length ≤ 8) && w.all fun c => decide (c ∈ lets)
theorem lc_signs (l : List Nat) (k : Nat) (e : E) (δ : Sl) (f : Nat → Bool) (he : ∀ c, e (δ.set k (.v (.str (St [c])))) = .ok (.bl (f c))) : lcD (.nm k) tTrue e δ (l.map fun c => .str (St [c])) = .ok (l.map fun c => D.bl (f c)) := by
  induction l with
  | nil => rfl
  | cons c l ih => simp [lcD, he, ih]
theorem gAll_map {α : Type} (l : List α) (f : α → Bool) : gAll [.lst (l.map fun c => D.bl (f c))] = some (.bl (l.all f)) := by
  have e : l.map (fun c => D.bl (f c)) = (l.map f).map D.bl := by simp
  have e2 : ∀ l : List α, (l.map f).all (fun b => b) = l.all f := fun l => by
    induction l with
    | nil => rfl
    | cons c l ih => simp [ih]
  rw [e]
  simp only [gAll, blsOf_map, Option.map_some, e2]
theorem mark_val (w : List Nat) (h : w.length ≤ 100000) : S_is_mark [.str (St w)] = .ok (.bl (isM w)) := by
  have hl : w.length ≤ sizeLine := small_line (by omega)
  have e := lc_signs w 1 (eBin gIn (eV 1) (eC (.str (St lets)))) [.v (.str (St w)), .un] (fun c => decide (c ∈ lets)) (fun c => by simp)
  have g := gAll_map w (fun c => decide (c ∈ lets))
  apply runD_rt
  by_cases h1 : (1 : Int) ≤ (w.length : Int)
  · have h1' : 1 ≤ w.length := by omega
    by_cases h2 : (w.length : Int) ≤ 8
    · have h2' : w.length ≤ 8 := by omega
      simp only [isM, decide_eq_true (And.intro h1' h2'), Bool.true_and]
      simp [hl, decide_eq_true h1, decide_eq_true h2, wipeD, e, g, -decide_eq_true_eq]
    · have h2' : ¬ w.length ≤ 8 := by omega
      simp [hl, h1', h2', decide_eq_true h1, decide_eq_false h2, isM]
  · have h1' : w = [] := List.length_eq_zero_iff.mp (by omega)
    subst h1'
    simp [isM]
theorem word_val (w : List Nat) (h : w.length ≤ 100000) : S_is_word [.str (St w)] = .ok (.bl (isW w)) := by
  have hl : w.length ≤ sizeLine := small_line (by omega)
  have e := lc_signs w 2 (eBin gIn (eV 2) (eV 1)) [.v (.str (St w)), .v (.str (St wsig)), .un] (fun c => decide (c ∈ wsig)) (fun c => by simp)
  have g := gAll_map w (fun c => decide (c ∈ wsig))
  have e0 : lets ++ grts ++ figs ++ [45] = wsig := rfl
  have e1 : lets ++ (grts ++ (figs ++ [45])) = wsig := by rw [← e0]; simp
  have a1 : lets.length + grts.length ≤ sizeLine := by decide
  have a2 : (lets ++ grts).length + figs.length ≤ sizeLine := by decide
  have a3 : (lets ++ grts ++ figs).length + [45].length ≤ sizeLine := by decide
  simp at a2 a3
  apply runD_rt
  by_cases h1 : (1 : Int) ≤ (w.length : Int)
  · have h1' : 1 ≤ w.length := by omega
    by_cases h2 : (w.length : Int) ≤ 62
    · have h2' : w.length ≤ 62 := by omega
      simp only [isW, decide_eq_true (And.intro h1' h2'), Bool.true_and]
      simp [hl, decide_eq_true h1, decide_eq_true h2, wipeD, e, g, a1, a2, a3, e0, e1, -decide_eq_true_eq]
    · have h2' : ¬ w.length ≤ 62 := by omega
      simp [hl, h1', h2', decide_eq_true h1, decide_eq_false h2, isW, a1, a2, a3, e0, e1]
  · have h1' : w = [] := List.length_eq_zero_iff.mp (by omega)
    subst h1'
    simp [isW, a1, a2, a3, e0, e1]
end Law

/-! VNu: a note's head, a note, read. -/
namespace Law
open PySem L2 Fs MCh
def stops : List Nat := [40, 41, 44]
theorem at_St {T : List Nat} {j c : Nat} (hl : T.length ≤ sizeLine) (h : T[j]? = some c) : gIx (.str (St T)) (.int (j : Int)) = some (.str (St [c])) := by
  obtain ⟨h1, h2⟩ := List.getElem?_eq_some_iff.mp h
  rw [v_ixS, if_pos hl, atI_ofNat T h1, h2]
  rfl
theorem head_loop {T : List Nat} (hT : T.length ≤ 100000) (p : Int) : ∀ (k n j : Nat), (∀ i, j ≤ i → i < j + k → ∃ c, T[i]? = some c ∧ c ∉ stops) → (j + k = T.length ∨ ∃ c, T[j + k]? = some c ∧ c ∈ stops) → k < n →
    whileD T_head_of_0 L_head_of_0 n [.v (.str (St T)), .v (.int p), .v (.int (j : Int)), .un, .un, .un] = .nx [.v (.str (St T)), .v (.int p), .v (.int ((j + k : Nat) : Int)), .un, .un, .un]
  | 0, n + 1, j, h, he, hn => by
    have hl : T.length ≤ sizeLine := small_line (by omega)
    have hc : T_head_of_0 [.v (.str (St T)), .v (.int p), .v (.int (j : Int)), .un, .un, .un] = .ok false := by
      rcases he with he | ⟨c, he, hs⟩
      · have : ¬ j < T.length := by omega
        simp [T_head_of_0, hl, this]
      · have hj := (List.getElem?_eq_some_iff.mp he).1
        have e := at_St hl he
        have : j < T.length := by omega
        simp [stops] at hs
        simp only [Nat.add_zero] at e
        rcases hs with hs | hs | hs <;> subst hs <;> simp [T_head_of_0, hl, this, e]
    simp only [whileD, hc, Nat.add_zero]
  | k + 1, n + 1, j, h, he, hn => by
    have hl : T.length ≤ sizeLine := small_line (by omega)
    obtain ⟨c, e0, hs⟩ := h j (Nat.le_refl _) (by omega)
    have hj := (List.getElem?_eq_some_iff.mp e0).1
    have e := at_St hl e0
    simp [stops] at hs
    have hc : T_head_of_0 [.v (.str (St T)), .v (.int p), .v (.int (j : Int)), .un, .un, .un] = .ok true := by
      simp [T_head_of_0, hl, hj, e, hs]
    have hb : L_head_of_0 [.v (.str (St T)), .v (.int p), .v (.int (j : Int)), .un, .un, .un] = .nx [.v (.str (St T)), .v (.int p), .v (.int ((j + 1 : Nat) : Int)), .un, .un, .un] := by
      simp [L_head_of_0]
    have ih := head_loop hT p k n (j + 1) (fun i h1 h2 => h i (by omega) (by omega)) (by rw [show j + 1 + k = j + (k + 1) by omega]; exact he) (by omega)
    simp only [whileD, hc, hb, ih]
    rw [show j + 1 + k = j + (k + 1) by omega]
  | k, 0, j, h, he, hn => by omega
/-- the head of a note -/
def hd (lab w : List Nat) : List Nat := if lab = [] then w else lab ++ [58] ++ w
def LabOk (lab : List Nat) : Prop := lab = [] ∨ isM lab = true
theorem wsig_free : ∀ c ∈ wsig, c ≠ 58 ∧ c ≠ 40 ∧ c ≠ 41 ∧ c ≠ 44 := by decide
theorem lets_free : ∀ c ∈ lets, c ≠ 58 ∧ c ≠ 40 ∧ c ≠ 41 ∧ c ≠ 44 := by decide
theorem isW_all {w : List Nat} (h : isW w = true) : 1 ≤ w.length ∧ w.length ≤ 62 ∧ ∀ c ∈ w, c ∈ wsig := by
  unfold isW at h
  rw [Bool.and_eq_true, decide_eq_true_eq, List.all_eq_true] at h
  exact ⟨h.1.1, h.1.2, fun c hc => of_decide_eq_true (h.2 c hc)⟩
theorem isM_all {w : List Nat} (h : isM w = true) : 1 ≤ w.length ∧ w.length ≤ 8 ∧ ∀ c ∈ w, c ∈ lets := by
  unfold isM at h
  rw [Bool.and_eq_true, decide_eq_true_eq, List.all_eq_true] at h
  exact ⟨h.1.1, h.1.2, fun c hc => of_decide_eq_true (h.2 c hc)⟩
theorem LabOk.all {lab : List Nat} (h : LabOk lab) : lab.length ≤ 8 ∧ ∀ c ∈ lab, c ∈ lets := by
  rcases h with h | h
  · subst h; exact ⟨by decide, fun c hc => nomatch hc⟩
  · exact ⟨(isM_all h).2.1, (isM_all h).2.2⟩
theorem hd_len {lab w : List Nat} (hl : LabOk lab) (hw : isW w = true) : (hd lab w).length ≤ 71 ∧ 1 ≤ (hd lab w).length := by
  have h1 := hl.all.1
  have h2 := isW_all hw
  unfold hd
  split
  · omega
  · simp; omega
theorem hd_free {lab w : List Nat} (hl : LabOk lab) (hw : isW w = true) : ∀ c ∈ hd lab w, c ∉ stops := by
  intro c hc
  have h0 : c ∈ lab ∨ c = 58 ∨ c ∈ w := by
    unfold hd at hc
    split at hc
    · exact .inr (.inr hc)
    · simpa [or_assoc] using hc
  rcases h0 with h | h | h
  · have := lets_free c (hl.all.2 c h); simp [stops]; omega
  · subst h; decide
  · have := wsig_free c ((isW_all hw).2.2 c h); simp [stops]; omega
theorem part_hd {lab w : List Nat} (hl : LabOk lab) (hw : isW w = true) : gPart (.str (St (hd lab w))) [.str (St [58])] = some (if lab = [] then .tup [.str (St w), .str (St []), .str (St [])] else .tup [.str (St lab), .str (St [58]), .str (St w)]) := by
  have h2 := isW_all hw
  have hlen : ((St [58]).length == 0) = false := by decide
  have hs : (St (hd lab w)).length ≤ sizeLine := small_line (by have := hd_len hl hw; simp; omega)
  simp only [gPart, hlen, hs, and_self, if_true]
  by_cases hz : lab = []
  · have e : Txt.partition (St w) (St [58]) = (St w, St [], St []) := TL.partition_none (s := 58) (S := []) rfl (fun hc => (wsig_free 58 (h2.2.2 58 hc)).1 rfl)
    simp only [hd, hz, if_true, e]
  · have e : Txt.partition (St lab ++ St [58] ++ St w) (St [58]) = (St lab, St [58], St w) := TL.partition_app (s := 58) (S := []) rfl (fun hc => (lets_free 58 (hl.all.2 58 hc)).1 rfl)
    rw [St_cat, St_cat] at e
    simp only [hd, hz, if_false, e]
def EndOk (suf : List Nat) : Prop := suf = [] ∨ ∃ c r, suf = c :: r ∧ c ∈ stops
theorem head_val {T pre lab w suf : List Nat} {a b : Nat} (hT : T.length ≤ 90000) (e : T = pre ++ hd lab w ++ suf) (ha : pre.length = a) (hb : a + (hd lab w).length = b) (hl : LabOk lab) (hw : isW w = true) (hs : EndOk suf) :
    S_head_of [.str (St T), .int (a : Int)] = .ok (.tup [.str (St lab), .str (St w), .int (b : Int)]) := by
  have hl9 : T.length ≤ sizeLine := small_line (by omega)
  have hfree := hd_free hl hw
  have e1 := head_loop (T := T) (by omega) (a : Int) (hd lab w).length fuel a (fun i h1 h2 => by
      have hi : i - a < (hd lab w).length := by omega
      refine ⟨(hd lab w)[i - a], ?_, hfree _ (List.getElem_mem hi)⟩
      rw [e, List.append_assoc, List.getElem?_append_right (by omega), ha, List.getElem?_append_left hi, List.getElem?_eq_getElem hi])
    (by
      rcases hs with hs | ⟨c, r, hs, hc⟩
      · refine .inl ?_
        rw [e, hs]
        simp [ha]
      · refine .inr ⟨c, ?_, hc⟩
        rw [e, hs, List.getElem?_append_right (by simp [ha]), show a + (hd lab w).length - (pre ++ hd lab w).length = 0 by simp [ha]]
        rfl) (by have := hd_len hl hw; unfold fuel; omega)
  rw [hb] at e1
  have e2 : cutL T (some (a : Int)) (some (b : Int)) = hd lab w := by
    rw [cutL_nn, e, List.append_assoc, List.drop_left' ha, List.take_left' (by omega)]
  have e3 := part_hd hl hw
  have e4 := word_val w (by have := isW_all hw; omega)
  rw [hw] at e4
  apply runD_rt
  by_cases hz : lab = []
  · subst hz
    have e5 : hd [] w = w := rfl
    rw [e5] at e3 e2
    rw [if_pos rfl] at e3
    simp [e1, hl9, e2, e3, e4, St_eq]
  · rw [if_neg hz] at e3
    have hm : isM lab = true := hl.resolve_left hz
    have e6 := mark_val lab (by have := isM_all hm; omega)
    rw [hm] at e6
    simp [e1, hl9, e2, e3, e4, e6, St_eq]
end Law

/-! VNv: notes, read and shown. -/
namespace Law
open PySem L2 Fs MCh
def nt (lab w : List Nat) (x : D) : D := .tup [.str (St lab), .str (St w), x]
/-- a note of at most so many open brackets, and its text -/
def Nx : Nat → D → List Nat → Prop
  | 0, x, t => ∃ lab w, LabOk lab ∧ isW w = true ∧ x = nt lab w .non ∧ t = hd lab w
  | d + 1, x, t => ∃ lab w, LabOk lab ∧ isW w = true ∧ ((x = nt lab w .non ∧ t = hd lab w) ∨
      ∃ ps : List (D × List Nat), ps.length ≤ 1000 ∧ (∀ p ∈ ps, Nx d p.1 p.2) ∧ x = nt lab w (.tup (ps.map (·.1))) ∧ t = hd lab w ++ [40] ++ TL.joinL [44] (ps.map (·.2)) ++ [41])
theorem Nx.leaf {d : Nat} {lab w : List Nat} (hl : LabOk lab) (hw : isW w = true) : Nx d (nt lab w .non) (hd lab w) := by
  cases d with
  | zero => exact ⟨lab, w, hl, hw, rfl, rfl⟩
  | succ d => exact ⟨lab, w, hl, hw, .inl ⟨rfl, rfl⟩⟩
theorem cut_one (T : List Nat) (b : Nat) : cutL T (some (b : Int)) (some ((b : Int) + 1)) = (T.drop b).take 1 := by
  have := cutL_nn T b (b + 1)
  rw [show ((b + 1 : Nat) : Int) = (b : Int) + 1 by omega, show b + 1 - b = 1 by omega] at this
  exact this
/-! reading -/
/-- what the reading of a thing within comes to -/
def EndN (suf : List Nat) : Prop := suf = [] ∨ ∃ c r, suf = c :: r ∧ (c = 41 ∨ c = 44)
theorem EndN.ok {suf : List Nat} (h : EndN suf) : EndOk suf := by
  rcases h with h | ⟨c, r, h, hc⟩
  · exact .inl h
  · exact .inr ⟨c, r, h, by rcases hc with rfl | rfl <;> decide⟩
def Rd1 (N : List D → R D) (T : List Nat) (q : D × List Nat) : Prop := ∀ (pre suf : List Nat) (a : Nat), T = pre ++ q.2 ++ suf → pre.length = a → EndN suf → N [.str (St T), .int (a : Int)] = .ok (.tup [q.1, .int ((a + q.2.length : Nat) : Int)])
theorem joinL_cons2 (p q : List Nat) (r : List (List Nat)) : TL.joinL [44] (p :: q :: r) = p ++ (44 :: TL.joinL [44] (q :: r)) := by
  show p ++ ([44] ++ TL.joinL [44] (q :: r)) = _
  simp
theorem inner_loop {N : List D → R D} {T : List Nat} (hT : T.length ≤ 90000) {lab w : D} : ∀ (qs : List (D × List Nat)) (q : D × List Nat) (done : List D) (pre suf : List Nat) (a n : Nat) (y : Fs.Slot), (∀ p ∈ q :: qs, Rd1 N T p) → T = pre ++ TL.joinL [44] ((q :: qs).map (·.2)) ++ 41 :: suf → pre.length = a → done.length + qs.length ≤ 2000 → qs.length < n →
    whileD (T_note_at_0 N) (L_note_at_0 N) n [.v (.str (St T)), .v (.int (a : Int)), .v lab, .v w, .own done, y] =
      .rt (.tup [.tup [lab, w, .tup (done ++ (q :: qs).map (·.1))], .int ((a + (TL.joinL [44] ((q :: qs).map (·.2))).length + 1 : Nat) : Int)])
  | qs, q, done, pre, suf, a, 0, y, hq, e, ha, hd, hn => by omega
  | [], q, done, pre, suf, a, n + 1, y, hq, e, ha, hd, hn => by
    have hl9 : T.length ≤ sizeLine := small_line (by omega)
    have l2 : done.length < sizeLine := small_line (n := done.length + 1) (by omega)
    have ej : TL.joinL [44] ([q].map (·.2)) = q.2 := rfl
    rw [ej] at e ⊢
    have r := hq q (by simp) pre (41 :: suf) a e ha (.inr ⟨41, suf, rfl, .inl rfl⟩)
    obtain ⟨b, hb⟩ : ∃ b, a + q.2.length = b := ⟨_, rfl⟩
    rw [hb] at r ⊢
    have c1 : cutL T (some (b : Int)) (some ((b : Int) + 1)) = [41] := by
      rw [cut_one, e, List.drop_left' (by simp [ha, hb])]
      rfl
    have hc : T_note_at_0 N [.v (.str (St T)), .v (.int (a : Int)), .v lab, .v w, .own done, y] = .ok true := by simp [T_note_at_0]
    have hbd : L_note_at_0 N [.v (.str (St T)), .v (.int (a : Int)), .v lab, .v w, .own done, y] = .rt (.tup [.tup [lab, w, .tup (done ++ [q].map (·.1))], .int ((b + 1 : Nat) : Int)]) := by
      simp [L_note_at_0, r, hl9, c1, l2, St_eq, gTuple]
    simp only [whileD, hc, hbd]
  | q2 :: qs, q, done, pre, suf, a, n + 1, y, hq, e, ha, hd, hn => by
    have hl9 : T.length ≤ sizeLine := small_line (by omega)
    have l2 : done.length < sizeLine := small_line (n := done.length + 1) (by omega)
    have ej : TL.joinL [44] ((q :: q2 :: qs).map (·.2)) = q.2 ++ (44 :: TL.joinL [44] ((q2 :: qs).map (·.2))) := joinL_cons2 _ _ _
    rw [ej] at e ⊢
    have e2 : T = pre ++ q.2 ++ (44 :: (TL.joinL [44] ((q2 :: qs).map (·.2)) ++ 41 :: suf)) := by rw [e]; simp
    have r := hq q (by simp) pre _ a e2 ha (.inr ⟨44, _, rfl, .inr rfl⟩)
    obtain ⟨b, hb⟩ : ∃ b, a + q.2.length = b := ⟨_, rfl⟩
    rw [hb] at r
    have c1 : cutL T (some (b : Int)) (some ((b : Int) + 1)) = [44] := by
      rw [cut_one, e2, List.drop_left' (by simp [ha, hb])]
      rfl
    have hc : T_note_at_0 N [.v (.str (St T)), .v (.int (a : Int)), .v lab, .v w, .own done, y] = .ok true := by simp [T_note_at_0]
    have hbd : L_note_at_0 N [.v (.str (St T)), .v (.int (a : Int)), .v lab, .v w, .own done, y] = .nx [.v (.str (St T)), .v (.int ((b + 1 : Nat) : Int)), .v lab, .v w, .own (done ++ [q.1]), .v q.1] := by
      simp [L_note_at_0, r, hl9, c1, l2, St_eq]
    have ih := inner_loop hT (N := N) (lab := lab) (w := w) qs q2 (done ++ [q.1]) (pre ++ q.2 ++ [44]) suf (b + 1) n (.v q.1) (fun p hp => hq p (by simp at hp ⊢; exact .inr hp)) (by rw [e2]; simp) (by simp; omega) (by simp at hd ⊢; omega) (by simp at hn; omega)
    simp only [whileD, hc, hbd, ih, List.map_cons, List.append_assoc, List.singleton_append, List.cons_append, List.nil_append]
    have hx : b + 1 = a + (q.2.length + 1) := by omega
    simp [hx, Nat.add_assoc, Nat.add_comm, Nat.add_left_comm]
theorem nx_head {d : Nat} {x : D} {t : List Nat} (h : Nx d x t) : ∃ c r, t = c :: r ∧ c ∉ stops := by
  have key : ∀ (lab w r : List Nat), LabOk lab → isW w = true → ∃ c s, hd lab w ++ r = c :: s ∧ c ∉ stops := fun lab w r hl hw => by
    have h1 := (hd_len hl hw).2
    have h2 := hd_free hl hw
    cases q : hd lab w with
    | nil => rw [q] at h1; simp at h1
    | cons c s => exact ⟨c, s ++ r, rfl, h2 c (by rw [q]; simp)⟩
  cases d with
  | zero =>
    obtain ⟨lab, w, hl, hw, _, e⟩ := h
    have := key lab w [] hl hw
    rw [List.append_nil] at this
    rw [e]; exact this
  | succ d =>
    obtain ⟨lab, w, hl, hw, ⟨_, e⟩ | ⟨ps, _, _, _, e⟩⟩ := h
    · have := key lab w [] hl hw
      rw [List.append_nil] at this
      rw [e]; exact this
    · have := key lab w ([40] ++ TL.joinL [44] (ps.map (·.2)) ++ [41]) hl hw
      rw [e]
      simpa using this
theorem leaf_rd (k : Nat) {lab w T : List Nat} (hl : LabOk lab) (hw : isW w = true) (hT : T.length ≤ 90000) : Rd1 (S_note_at (k + 1)) T (nt lab w .non, hd lab w) := by
  intro pre suf a e ha hs
  have hl9 : T.length ≤ sizeLine := small_line (by omega)
  obtain ⟨b, hb⟩ : ∃ b, a + (hd lab w).length = b := ⟨_, rfl⟩
  have e1 := head_val hT e ha hb hl hw hs.ok
  have c1 : cutL T (some (b : Int)) (some ((b : Int) + 1)) ≠ [40] := by
    rw [cut_one, show T = pre ++ hd lab w ++ suf from e, List.drop_left' (by simp [ha, hb])]
    rcases hs with hs | ⟨c, r, hs, hc⟩
    · subst hs; decide
    · subst hs
      rcases hc with rfl | rfl <;> simp
  show U_note_at _ _ = _
  apply runD_rt
  simp only [hb]
  simp [e1, hl9, St_eq, c1, nt]
theorem note_rd : ∀ (d : Nat) (x : D) (t : List Nat), Nx d x t → ∀ (T : List Nat), T.length ≤ 90000 → ∀ m, Rd1 (S_note_at (m + d + 1)) T (x, t)
  | 0, x, t, ⟨lab, w, hl, hw, ex, et⟩, T, hT, m => by
    subst ex; subst et
    exact leaf_rd _ hl hw hT
  | d + 1, x, t, ⟨lab, w, hl, hw, .inl ⟨ex, et⟩⟩, T, hT, m => by
    subst ex; subst et
    exact leaf_rd _ hl hw hT
  | d + 1, x, t, ⟨lab, w, hl, hw, .inr ⟨ps, hp, hps, ex, et⟩⟩, T, hT, m => by
    intro pre suf a e ha hs
    have ih := fun p hp => note_rd d p.1 p.2 (hps p hp) T hT m
    have hl9 : T.length ≤ sizeLine := small_line (by omega)
    obtain ⟨b, hb⟩ : ∃ b, a + (hd lab w).length = b := ⟨_, rfl⟩
    have e' : T = pre ++ hd lab w ++ (40 :: (TL.joinL [44] (ps.map (·.2)) ++ 41 :: suf)) := by rw [show T = pre ++ t ++ suf from e, et]; simp
    have e1 := head_val hT e' ha hb hl hw (.inr ⟨40, _, rfl, by decide⟩)
    have d1 : T.drop b = 40 :: (TL.joinL [44] (ps.map (·.2)) ++ 41 :: suf) := by rw [e', List.drop_left' (by simp [ha, hb])]
    have c1 : cutL T (some (b : Int)) (some ((b : Int) + 1)) = [40] := by
      rw [cut_one, d1]
      rfl
    have d2 : T.drop (b + 1) = TL.joinL [44] (ps.map (·.2)) ++ 41 :: suf := by
      rw [← List.drop_drop, d1]
      rfl
    have c2 := cut_one T (b + 1)
    rw [d2, show ((b + 1 : Nat) : Int) = (b : Int) + 1 by omega] at c2
    have hlen : a + t.length = b + (TL.joinL [44] (ps.map (·.2))).length + 2 := by rw [et]; simp; omega
    subst ex
    show U_note_at _ _ = _
    apply runD_rt
    simp only [hlen]
    cases ps with
    | nil =>
      have c3 : cutL T (some ((b : Int) + 1)) (some ((b : Int) + 1 + 1)) = [41] := c2
      simp [e1, hl9, St_eq, c1, c3, nt, TL.joinL]
      omega
    | cons p ps =>
      have c3 : cutL T (some ((b : Int) + 1)) (some ((b : Int) + 1 + 1)) ≠ [41] := by
        obtain ⟨c, r, h1, h2⟩ := nx_head (hps p (by simp))
        have : ∃ s, TL.joinL [44] ((p :: ps).map (·.2)) = c :: s := by
          cases ps with
          | nil => exact ⟨r, h1⟩
          | cons q qs => exact ⟨_, (joinL_cons2 _ _ _).trans (by simp only [h1]; rfl)⟩
        obtain ⟨s, hs⟩ := this
        rw [c2, hs]
        intro z
        simp at z
        exact h2 (by rw [z]; decide)
      have lp := inner_loop (N := S_note_at (m + d + 1)) hT (lab := .str (St lab)) (w := .str (St w)) ps p [] (pre ++ hd lab w ++ [40]) suf (b + 1) fuel .un (fun q hq => ih q hq) (by rw [e']; simp) (by simp; omega) (by simp at hp ⊢; omega) (by simp at hp; unfold fuel; omega)
      have lp2 : whileD (T_note_at_0 (S_note_at (m + (d + 1)))) (L_note_at_0 (S_note_at (m + (d + 1)))) fuel [.v (.str (St T)), .v (.int ((b : Int) + 1)), .v (.str (St lab)), .v (.str (St w)), .own [], .un] = _ := lp
      simp [e1, hl9, St_eq, c1, c3, nt, lp2]
      omega
end Law

/-! VNw: notes, shown; the bounds. -/
namespace Law
open PySem L2 Fs MCh
def bst (s : Int × Int) (c : Nat) : Int × Int := if c = 40 then (s.1 + 1, if s.1 + 1 > s.2 then s.1 + 1 else s.2) else if c = 41 then (s.1 - 1, s.2) else s
theorem bounds_loop (x : Fs.Slot) : ∀ (l : List Nat) (s : Int × Int) (y : Fs.Slot), ∃ y', forD (.nm 3) L_in_bounds_0 (l.map fun c => .str (St [c])) [x, .v (.int s.1), .v (.int s.2), y] = .nx [x, .v (.int (l.foldl bst s).1), .v (.int (l.foldl bst s).2), y']
  | [], s, y => ⟨y, rfl⟩
  | c :: l, s, y => by
    obtain ⟨y', e⟩ := bounds_loop x l (bst s c) (.v (.str (St [c])))
    refine ⟨y', ?_⟩
    have hb : L_in_bounds_0 [x, .v (.int s.1), .v (.int s.2), .v (.str (St [c]))] = .nx [x, .v (.int (bst s c).1), .v (.int (bst s c).2), .v (.str (St [c]))] := by
      by_cases h1 : c = 40
      · subst h1
        simp [L_in_bounds_0, bst, St_eq]
      · by_cases h2 : c = 41
        · subst h2
          simp [L_in_bounds_0, bst, St_eq]
        · simp [L_in_bounds_0, bst, St_eq, h1, h2]
    simp [forD, hb, e]
theorem bf_free : ∀ (l : List Nat) (s : Int × Int), (∀ c ∈ l, c ∉ stops) → l.foldl bst s = s
  | [], s, h => rfl
  | c :: l, s, h => by
    have hc := h c (by simp)
    simp [stops] at hc
    have : bst s c = s := by simp [bst, hc]
    rw [List.foldl_cons, this]
    exact bf_free l s fun c hc => h c (by simp [hc])
theorem bf_note : ∀ (d : Nat) (x : D) (t : List Nat), Nx d x t → ∀ (o m : Int), ∃ m', t.foldl bst (o, m) = (o, m') ∧ m ≤ m' ∧ (m' ≤ m ∨ m' ≤ o + d)
  | 0, x, t, ⟨lab, w, hl, hw, ex, et⟩, o, m => ⟨m, by rw [et]; exact bf_free _ _ (hd_free hl hw), by omega, .inl (by omega)⟩
  | d + 1, x, t, ⟨lab, w, hl, hw, .inl ⟨ex, et⟩⟩, o, m => ⟨m, by rw [et]; exact bf_free _ _ (hd_free hl hw), by omega, .inl (by omega)⟩
  | d + 1, x, t, ⟨lab, w, hl, hw, .inr ⟨ps, hp, hps, ex, et⟩⟩, o, m => by
    have ih := fun p hp => bf_note d p.1 p.2 (hps p hp)
    have join : ∀ (qs : List (D × List Nat)), (∀ q ∈ qs, q ∈ ps) → ∀ (o m : Int), ∃ m', (TL.joinL [44] (qs.map (·.2))).foldl bst (o, m) = (o, m') ∧ m ≤ m' ∧ (m' ≤ m ∨ m' ≤ o + d) := by
      intro qs
      induction qs with
      | nil => exact fun _ o m => ⟨m, rfl, by omega, .inl (by omega)⟩
      | cons q qs ihq =>
        intro hq o m
        obtain ⟨m1, e1, h1, h2⟩ := ih q (hq q (by simp)) o m
        cases qs with
        | nil => exact ⟨m1, e1, h1, h2⟩
        | cons r rs =>
          obtain ⟨m2, e2, h3, h4⟩ := ihq (fun z hz => hq z (by simp at hz ⊢; exact .inr hz)) o m1
          refine ⟨m2, ?_, by omega, by omega⟩
          have ej : TL.joinL [44] ((q :: r :: rs).map (·.2)) = q.2 ++ (44 :: TL.joinL [44] ((r :: rs).map (·.2))) := joinL_cons2 _ _ _
          rw [ej, List.foldl_append, e1, List.foldl_cons]
          exact e2
    obtain ⟨m1, e1, h1, h2⟩ := join ps (fun _ h => h) (o + 1) (if o + 1 > m then o + 1 else m)
    refine ⟨m1, ?_, ?_, ?_⟩
    · rw [et, List.foldl_append, List.foldl_append, List.foldl_append, bf_free _ _ (hd_free hl hw)]
      have : [40].foldl bst (o, m) = (o + 1, if o + 1 > m then o + 1 else m) := rfl
      rw [this, e1]
      simp [bst]
    · split at h1 <;> omega
    · split at h2 <;> omega
theorem runD_nx {N : Nat} {body : S} {ds : List D} {δ : Sl} (h : body (ds.map .v ++ List.replicate (N - ds.length) .un) = .nx δ) : runD N body ds = .ok .non := by unfold runD; rw [h]
theorem bounds_val {x : D} {t : List Nat} (h : Nx 6 x t) (hl : t.length ≤ 2000) : S_in_bounds [.str (St t)] = .ok .non := by
  obtain ⟨m', e, h1, h2⟩ := bf_note 6 x t h 0 0
  obtain ⟨y', e2⟩ := bounds_loop (.v (.str (St t))) t (0, 0) .un
  rw [e] at e2
  have hl9 : t.length ≤ sizeLine := small_line (by omega)
  have g1 : ¬ ((t.length : Int) > 2000) := by omega
  have g2 : ¬ (m' > 6) := by omega
  have g1' : ¬ (2000 : Int) < (t.length : Int) := by omega
  have g2' : ¬ 6 < m' := by omega
  refine runD_nx (δ := [.v (.str (St t)), .v (.int 0), .v (.int m'), y']) ?_
  simp at e2
  simp [e2, hl9, g1', g2']
theorem read_val {x : D} {t : List Nat} (h : Nx 6 x t) (hl : t.length ≤ 2000) : S_read_note [.str (St t)] = .ok x := by
  have hl9 : t.length ≤ sizeLine := small_line (by omega)
  have e1 := bounds_val h hl
  have e2 := note_rd 6 x t h t (by omega) 63 [] [] 0 (by simp) rfl (.inl rfl)
  have e3 : S_note_at 70 [.str (St t), .int 0] = .ok (.tup [x, .int (t.length : Int)]) := by
    rw [Nat.zero_add] at e2
    exact e2
  apply runD_rt
  simp [e1, e3, hl9]
/-! showing -/
theorem joinL_le : ∀ (ts : List (List Nat)), (∀ t ∈ ts, t.length ≤ (TL.joinL [44] ts).length) ∧ ts.length ≤ (TL.joinL [44] ts).length + 1 ∧ (ts.map (·.length)).sum + ts.length ≤ (TL.joinL [44] ts).length + 1
  | [] => ⟨(fun _ h => nomatch h), by simp, by simp [TL.joinL]⟩
  | [p] => ⟨fun t h => by simp at h; subst h; exact Nat.le_refl _, by simp, by simp [TL.joinL]⟩
  | p :: q :: r => by
    obtain ⟨h1, h2, h3⟩ := joinL_le (q :: r)
    have e : (TL.joinL [44] (p :: q :: r)).length = p.length + 1 + (TL.joinL [44] (q :: r)).length := by rw [joinL_cons2]; simp; omega
    refine ⟨fun t ht => ?_, by rw [e]; simp at h2 ⊢; omega, by rw [e]; simp at h3 ⊢; omega⟩
    rw [e]
    rcases List.mem_cons.mp ht with z | z
    · subst z; omega
    · have := h1 t z; omega
theorem join_St (ts : List (List Nat)) : Txt.join (St [44]) (ts.map St) = St (TL.joinL [44] ts) := by
  rw [TL.join_eq]
  refine TL.ext_tl ?_
  have := TL.tl_join (St [44]) (ts.map St)
  rw [this]
  have e : (ts.map St).map TL.tl = ts := by
    rw [List.map_map]
    exact (List.map_congr_left (g := id) fun x _ => rfl).trans (List.map_id _)
  rw [e]
  rfl
theorem gJoin_val (ts : List (List Nat)) (h : (TL.joinL [44] ts).length ≤ 90000) : gJoin (.str (St [44])) [.lst (ts.map fun t => .str (St t))] = some (.str (St (TL.joinL [44] ts))) := by
  have e : ts.map (fun t => D.str (St t)) = (ts.map St).map D.str := by simp
  have h3 := (joinL_le ts).2.2
  have h4 : ((ts.map St).map (·.length)).sum + (ts.map St).length * (St [44]).length ≤ 16777216 := by
    have e1 : (ts.map St).map (·.length) = ts.map (·.length) := by simp
    have e2 : (St [44]).length = 1 := by simp
    rw [e1, e2, List.length_map]
    omega
  rw [e]
  simp only [gJoin, strsOf_map, Option.bind_some]
  rw [if_pos h4, join_St]
/-- a function that shows notes -/
def Shw (N : List D → R D) (q : D × List Nat) : Prop := N [q.1] = .ok (.str (St q.2))
theorem show_in {N : List D → R D} {ps : List (D × List Nat)} {δ : Sl} (h : ∀ p ∈ ps, Shw N p) (hd : δ.length = 3) : lcD (.nm 2) tTrue (eCall N (aCons (eV 2) aNil)) δ (ps.map (·.1)) = .ok (ps.map fun p => .str (St p.2)) :=
  lcD_mapL _ _ _ fun p hp => ⟨_, by simp; rfl, by simp, by
    have e := h p hp
    unfold Shw at e
    simp [hd, e]⟩
theorem show_val : ∀ (d : Nat) (x : D) (t : List Nat), Nx d x t → t.length ≤ 90000 → ∀ m, Shw (S_show_note (m + d + 1)) (x, t) := by
  have leaf : ∀ (k : Nat) (lab w : List Nat), LabOk lab → isW w = true → Shw (S_show_note (k + 1)) (nt lab w .non, hd lab w) := by
    intro k lab w hl hw
    have h1 := isW_all hw
    have h2 := hl.all
    have l1 : lab.length + 1 ≤ sizeLine := small_line (by omega)
    have l2 : lab.length + 1 + w.length ≤ sizeLine := small_line (by omega)
    show U_show_note _ _ = _
    apply runD_rt
    by_cases hz : lab = []
    · subst hz
      simp [nt, hd, St_eq]
    · simp [nt, hd, St_eq, hz, l1, l2]
  intro d
  induction d with
  | zero =>
    intro x t h ht m
    obtain ⟨lab, w, hl, hw, ex, et⟩ := h
    subst ex; subst et
    exact leaf _ lab w hl hw
  | succ d ih =>
    intro x t h ht m
    obtain ⟨lab, w, hl, hw, ⟨ex, et⟩ | ⟨ps, hp, hps, ex, et⟩⟩ := h
    · subst ex; subst et
      exact leaf _ lab w hl hw
    · have h1 := isW_all hw
      have h2 := hl.all
      have hh := hd_len hl hw
      have tl : t.length = (hd lab w).length + (TL.joinL [44] (ps.map (·.2))).length + 2 := by rw [et]; simp; omega
      have l1 : lab.length + 1 ≤ sizeLine := small_line (by omega)
      have l2 : lab.length + 1 + w.length ≤ sizeLine := small_line (by omega)
      have l3 : w.length + 1 ≤ sizeLine := small_line (by omega)
      have l6 : ps.length ≤ sizeLine := small_line (by omega)
      have jl := (joinL_le (ps.map (·.2))).1
      have e1 : ∀ p ∈ ps, Shw (S_show_note (m + d + 1)) p := fun p hp => ih p.1 p.2 (hps p hp) (by have := jl p.2 (List.mem_map_of_mem hp); omega) m
      have e2 := fun δ hδ => show_in (δ := δ) e1 hδ
      have e3 := gJoin_val (ps.map (·.2)) (by omega)
      rw [List.map_map] at e3
      have e4 : (ps.map ((fun t => D.str (St t)) ∘ fun x => x.2)) = ps.map fun p => D.str (St p.2) := rfl
      rw [e4] at e3
      obtain ⟨J, hJ⟩ : ∃ J, TL.joinL [44] (ps.map (·.2)) = J := ⟨_, rfl⟩
      rw [hJ] at e3 et tl
      have e5 : ∀ y, lcD (.nm 2) tTrue (eCall (S_show_note (m + (d + 1))) (aCons (eV 2) aNil)) [.v (nt lab w (.tup (ps.map (·.1)))), y, .un] (ps.map (·.1)) = .ok (ps.map fun p => .str (St p.2)) := fun y => e2 _ rfl
      simp only [nt] at e5
      clear e2 e1 jl ih leaf
      subst ex
      unfold Shw
      show U_show_note _ _ = _
      apply runD_rt
      rw [et]
      by_cases hz : lab = []
      · subst hz
        have hw0 : hd [] w = w := rfl
        rw [hw0] at *
        have l7 : w.length + (J.length + 1) + 1 ≤ sizeLine := small_line (by omega)
        have l8 : w.length + 1 + J.length ≤ sizeLine := small_line (by omega)
        simp [nt, St_eq, wipeD, e5, e3, l3, l6, l7, l8]
      · have hw0 : hd lab w = lab ++ 58 :: w := by simp [hd, hz]
        have hw1 : (hd lab w).length = lab.length + w.length + 1 := by rw [hw0]; simp; omega
        have l7 : lab.length + (w.length + 1) + 1 ≤ sizeLine := small_line (by omega)
        have l8 : lab.length + (w.length + 1 + 1) + J.length ≤ sizeLine := small_line (by omega)
        have l9 : lab.length + (w.length + (J.length + 1) + 1) + 1 ≤ sizeLine := small_line (by omega)
        simp [nt, St_eq, wipeD, e5, e3, l1, l2, l6, l7, l8, l9, hz, hw0]
end Law

namespace Law
open PySem L2 Fs MCh
theorem ints_nil (cs : List Int) : gEq (.lst (cs.map .int)) (.lst []) = some (.bl (decide (cs = []))) := by
  rw [eq_nil (k := 1) (eqk_lst fun x hx => by
    obtain ⟨i, _, rfl⟩ := List.mem_map.mp hx
    exact eqk_int _ _) (by decide)]
  congr 2
  rw [Bool.eq_iff_iff, decide_eq_true_eq, decide_eq_true_eq, List.map_eq_nil_iff]
theorem take_val (cs : List Int) (m : Int) (hm : 0 < m) : ∃ (c : Int) (ds : List Int), S_l_take (cs.map .int) [.int m] = .ok (.int c, ds.map .int) ∧ 0 ≤ c ∧ c < m := by
  have e := ints_nil cs
  cases cs with
  | nil =>
    refine ⟨0, [], ?_, by omega, hm⟩
    simp only [List.map_nil, decide_true] at e
    apply runB_rt
    simp [e]
  | cons x xs =>
    refine ⟨x % m, xs, ?_, Int.emod_nonneg _ (by omega), Int.emod_lt_of_pos _ hm⟩
    rw [decide_eq_false (by simp)] at e
    simp only [List.map_cons] at e
    apply runB_rt
    simp [hm, e]
end Law

namespace Law
open PySem L2 Fs MCh
def tk (cs : List Int) (m : Int) : Int := match cs with
  | [] => 0
  | x :: _ => x % m
theorem tk_val (cs : List Int) (m : Int) (hm : 0 < m) : S_l_take (cs.map .int) [.int m] = .ok (.int (tk cs m), cs.tail.map .int) := by
  have e := ints_nil cs
  cases cs with
  | nil =>
    simp only [List.map_nil, decide_true] at e
    apply runB_rt
    simp [e, tk]
  | cons x xs =>
    rw [decide_eq_false (by simp)] at e
    simp only [List.map_cons] at e
    apply runB_rt
    simp [hm, e, tk]
theorem tk_rng (cs : List Int) (m : Int) (hm : 0 < m) : 0 ≤ tk cs m ∧ tk cs m < m := by
  cases cs with
  | nil => exact ⟨Int.le_refl _, hm⟩
  | cons x xs => exact ⟨Int.emod_nonneg _ (by omega), Int.emod_lt_of_pos _ hm⟩
/-! words -/
theorem word_made (c : Int) (n : Nat) (sg : List Nat) (hn : n ≤ 1000) (h0 : 0 < sg.length) (hs : sg.length ≤ 1000) : ∃ w : List Nat, S_l_word [.int c, .int (n : Int), .str (St sg)] = .ok (.str (St w)) ∧ w.length = n ∧ ∀ x ∈ w, x ∈ sg := by
  have hl : sg.length ≤ sizeLine := small_line (by omega)
  have d1 : divOk 1000 := divOk_small (by decide) (by decide)
  have m1 : ∀ j, IntMulOk j 48271 := fun j => mul_fitsR (by decide)
  obtain ⟨δ', e, w, q, y, hw, ha, rfl⟩ := forR (p := .nm 5) (body := L_l_word_0) (lo := 0) (n := n) (δ := [.v (.int c), .v (.int (n : Int)), .v (.str (St sg)), .v (.str (St [])), .v (.int (c % 2147483646 + 1)), .un])
    (fun i δ => ∃ (w : List Nat) (q : Int) (y : Fs.Slot), w.length = i ∧ (∀ x ∈ w, x ∈ sg) ∧ δ = [.v (.int c), .v (.int (n : Int)), .v (.str (St sg)), .v (.str (St w)), .v (.int q), y])
    ⟨[], c % 2147483646 + 1, .un, rfl, (fun _ h => nomatch h), rfl⟩
    (fun i δ hi => by
      rintro ⟨w, q, y, hw, ha, rfl⟩
      obtain ⟨q2, hq2⟩ : ∃ q2, q * 48271 % 2147483647 = q2 := ⟨_, rfl⟩
      have hp : (0 : Int) < (sg.length : Int) := by omega
      have z1 := Int.emod_nonneg (q2 / 1000) (show (sg.length : Int) ≠ 0 by omega)
      have z2 := Int.emod_lt_of_pos (q2 / 1000) hp
      obtain ⟨j, hj⟩ : ∃ j : Nat, q2 / 1000 % (sg.length : Int) = (j : Int) := ⟨(q2 / 1000 % (sg.length : Int)).toNat, by omega⟩
      have hjl : j < sg.length := by omega
      have e1 : gIx (.str (St sg)) (.int (j : Int)) = some (.str (St [sg[j]])) := by rw [v_ixS, if_pos hl, atI_ofNat sg hjl]; rfl
      have l2 : w.length + 1 ≤ sizeLine := small_line (by omega)
      refine ⟨_, by simp; rfl, [.v (.int c), .v (.int (n : Int)), .v (.str (St sg)), .v (.str (St (w ++ [sg[j]]))), .v (.int q2), .v (.int i)], by simp [L_l_word_0, m1, hq2, h0, hl, hj, e1, l2, d1], w ++ [sg[j]], q2, .v (.int i), by simp [hw], fun x hx => ?_, rfl⟩
      rcases List.mem_append.mp hx with h | h
      · exact ha x h
      · simp at h; rw [h]; exact List.getElem_mem hjl)
  refine ⟨w, ?_, hw, ha⟩
  have hr : rngOk (n : Int) := rngOk_nat (by omega)
  apply runD_rt
  simp [hr, e]
theorem isW_of {w : List Nat} (h1 : 1 ≤ w.length) (h2 : w.length ≤ 62) (h : ∀ c ∈ w, c ∈ wsig) : isW w = true := by
  unfold isW
  rw [Bool.and_eq_true, decide_eq_true_eq, List.all_eq_true]
  exact ⟨⟨h1, h2⟩, fun c hc => decide_eq_true (h c hc)⟩
theorem isM_of {w : List Nat} (h1 : 1 ≤ w.length) (h2 : w.length ≤ 8) (h : ∀ c ∈ w, c ∈ lets) : isM w = true := by
  unfold isM
  rw [Bool.and_eq_true, decide_eq_true_eq, List.all_eq_true]
  exact ⟨⟨h1, h2⟩, fun c hc => decide_eq_true (h c hc)⟩
@[simp] theorem c_wrest : Str.ofString "ABCDEFGHIJKLMNOPQRSTUVWXYZ0123456789-" = St (grts ++ figs ++ [45]) := of_St (by decide +kernel)
def phi (cs : List Int) : Nat := 26 * cs.length + (if cs.length = 0 then 0 else 45)
theorem joinL_len (ts : List (List Nat)) : (TL.joinL [44] ts).length + 1 = (ts.map (·.length)).sum + ts.length + (if ts = [] then 1 else 0) := by
  induction ts with
  | nil => simp [TL.joinL]
  | cons p ts ih =>
    cases ts with
    | nil => simp [TL.joinL]
    | cons q r => rw [joinL_cons2]; simp at ih ⊢; omega
theorem note_made : ∀ (d n o : Nat) (cs : List Int), o + d = 6 → ∃ x t, ∃ ds : List Int, S_l_note (n + d + 1) (cs.map .int) [.int (o : Int)] = .ok (x, ds.map D.int) ∧ Nx d x t ∧ t.length + phi ds ≤ 1 + phi cs
  | d, n, o, cs, ho => by
    have e1 := tk_val cs (10 ^ 18) (by decide)
    have e2 := tk_val cs.tail (10 ^ 18) (by decide)
    have e3 := tk_val cs.tail.tail 5 (by decide)
    obtain ⟨c1, h1⟩ : ∃ c, tk cs (10 ^ 18) = c := ⟨_, rfl⟩
    obtain ⟨c2, h2⟩ : ∃ c, tk cs.tail (10 ^ 18) = c := ⟨_, rfl⟩
    obtain ⟨c3, h3⟩ : ∃ c, tk cs.tail.tail 5 = c := ⟨_, rfl⟩
    have r3 := tk_rng cs.tail.tail 5 (by decide)
    rw [h1] at e1
    rw [h2] at e2
    rw [h3] at e3 r3
    obtain ⟨k1, hk1⟩ : ∃ k : Nat, 1 + c1 % 62 = (k : Int) := ⟨(1 + c1 % 62).toNat, by omega⟩
    obtain ⟨k2, hk2⟩ : ∃ k : Nat, 1 + c2 / 2 % 8 = (k : Int) := ⟨(1 + c2 / 2 % 8).toNat, by omega⟩
    obtain ⟨w, ew, lw, aw⟩ := word_made (c1 / 62) k1 wsig (by omega) (by decide) (by decide)
    obtain ⟨lb, el, ll, al⟩ := word_made (c2 / 16) k2 lets (by omega) (by decide) (by decide)
    have hw : isW w = true := isW_of (by omega) (by omega) aw
    have hlb : isM lb = true := isM_of (by omega) (by omega) al
    obtain ⟨lab, hlab, hlok, hll⟩ : ∃ lab, (if c2 % 2 = 1 then lb else []) = lab ∧ LabOk lab ∧ (cs.length ≤ 1 → lab = []) := ⟨_, rfl, by split; exact .inr hlb; exact .inl rfl, fun hz => by
      have : cs.tail = [] := List.length_eq_zero_iff.mp (by simp; omega)
      have : c2 = 0 := by rw [← h2, this]; rfl
      rw [if_neg (by omega)]⟩
    have hwl : cs.length = 0 → w.length = 1 := fun hz => by
      have : cs = [] := List.length_eq_zero_iff.mp hz
      have : c1 = 0 := by rw [← h1, this]; rfl
      omega
    have hc3 : cs.length ≤ 2 → c3 = 0 := fun hz => by
      have : cs.tail.tail = [] := List.length_eq_zero_iff.mp (by simp; omega)
      rw [← h3, this]; rfl
    have hhd : (hd lab w).length ≤ 71 := (hd_len hlok hw).1
    have hhd2 : cs.length ≤ 1 → (hd lab w).length = w.length := fun hz => by rw [hll hz]; rfl
    have tl3 : cs.tail.tail.tail.length = cs.length - 3 := by simp; omega
    have p3 : phi cs.tail.tail.tail = 26 * (cs.length - 3) + (if cs.length - 3 = 0 then 0 else 45) := by unfold phi; rw [tl3]
    have p0 : phi cs = 26 * cs.length + (if cs.length = 0 then 0 else 45) := rfl
    have sgl : lets.length + (grts.length + (figs.length + 1)) ≤ sizeLine := by decide
    have sge : lets ++ (grts ++ (figs ++ [45])) = wsig := by unfold wsig; simp
    have d62 : divOk 62 := divOk_small (by decide) (by decide)
    have d16 : divOk 16 := divOk_small (by decide) (by decide)
    have i1 : (10 : Int) ^ (18 : Int).toNat = 10 ^ 18 := rfl
    by_cases hq : d = 0 ∨ c3 = 0
    · refine ⟨nt lab w .non, hd lab w, cs.tail.tail.tail, ?_, Nx.leaf hlok hw, ?_⟩
      · show U_l_note _ _ _ = _
        apply runB_rt
        simp at e1 e2 e3
        have ho6 : d = 0 → (o : Int) = 6 := fun h => by omega
        by_cases hc2 : c2 % 2 = 1
        · rw [if_pos hc2] at hlab
          subst hlab
          rcases hq with hq | hq
          · simp [e1, e2, e3, d62, d16, hk1, hk2, sgl, sge, ew, el, hc2, ho6 hq, nt]
          · simp [e1, e2, e3, d62, d16, hk1, hk2, sgl, sge, ew, el, hc2, hq, nt]
        · rw [if_neg hc2] at hlab
          subst hlab
          rcases hq with hq | hq
          · simp [e1, e2, e3, d62, d16, hk1, hk2, sgl, sge, ew, el, hc2, ho6 hq, nt]
          · simp [e1, e2, e3, d62, d16, hk1, hk2, sgl, sge, ew, el, hc2, hq, nt]
      · rw [p3, p0]
        by_cases z0 : cs.length = 0
        · have := hwl z0; have := hhd2 (by omega); simp [z0]; omega
        · by_cases z1 : cs.length = 1
          · have := hhd2 (by omega); have := isW_all hw; simp [z1]; omega
          · have : (if cs.length = 0 then 0 else 45) = 45 := if_neg z0
            split <;> omega
    · obtain ⟨d, rfl⟩ : ∃ k, d = k + 1 := ⟨d - 1, by omega⟩
      have hd0 : ¬ d + 1 = 0 := by omega
      have hc0 : ¬ c3 = 0 := fun h => hq (.inr h)
      have ho6 : ¬ (o : Int) = 6 := by omega
      have hcs : 3 ≤ cs.length := by
        rcases Nat.lt_or_ge 2 cs.length with h | h
        · exact h
        · exact absurd (hc3 h) hc0
      obtain ⟨k, hk⟩ : ∃ k : Nat, c3 - 1 = (k : Int) := ⟨(c3 - 1).toNat, by omega⟩
      have hk4 : k ≤ 3 := by omega
      have ih := fun cs' => note_made d n (o + 1) cs' (by omega)
      rw [show ((o + 1 : Nat) : Int) = (o : Int) + 1 by omega] at ih
      obtain ⟨δ', e, ps, ds, y, hpl, hpn, hps, rfl⟩ := forR (p := .nm 9) (body := L_l_note_0 (S_l_note (n + d + 1))) (lo := 0) (n := k) (δ := [.bor (cs.tail.tail.tail.map .int), .v (.int (o : Int)), .v (.str (St lets)), .v (.int c1), .v (.str (St w)), .v (.int c2), .v (.str (St lab)), .v (.int c3), .own [], .un])
        (fun i δ => ∃ (ps : List (D × List Nat)) (ds : List Int) (y : Fs.Slot), ps.length = i ∧ (∀ p ∈ ps, Nx d p.1 p.2) ∧ ((ps.map (·.2)).map (·.length)).sum + phi ds ≤ i + phi cs.tail.tail.tail ∧
          δ = [.bor (ds.map .int), .v (.int (o : Int)), .v (.str (St lets)), .v (.int c1), .v (.str (St w)), .v (.int c2), .v (.str (St lab)), .v (.int c3), .own (ps.map (·.1)), y])
        ⟨[], cs.tail.tail.tail, .un, rfl, (fun _ h => nomatch h), by simp, rfl⟩
        (fun i δ hi => by
          rintro ⟨ps, ds, y, hpl, hpn, hps, rfl⟩
          obtain ⟨x, t, ds2, ex, hx, ht⟩ := ih ds
          have l2 : ps.length < sizeLine := small_line (n := ps.length + 1) (by omega)
          refine ⟨_, by simp; rfl, [.bor (ds2.map .int), .v (.int (o : Int)), .v (.str (St lets)), .v (.int c1), .v (.str (St w)), .v (.int c2), .v (.str (St lab)), .v (.int c3), .own ((ps ++ [(x, t)]).map (·.1)), .v (.int i)], by simp [L_l_note_0, ex, l2], ps ++ [(x, t)], ds2, .v (.int i), by simp [hpl], fun p hp => ?_, ?_, rfl⟩
          · rcases List.mem_append.mp hp with h | h
            · exact hpn p h
            · simp at h; subst h; exact hx
          · simp at hps ⊢
            omega)
      have hr : rngOk (k : Int) := rngOk_nat (by omega)
      refine ⟨nt lab w (.tup (ps.map (·.1))), hd lab w ++ [40] ++ TL.joinL [44] (ps.map (·.2)) ++ [41], ds, ?_, ⟨lab, w, hlok, hw, .inr ⟨ps, by omega, hpn, rfl, rfl⟩⟩, ?_⟩
      · show U_l_note _ _ _ = _
        apply runB_rt
        simp at e1 e2 e3
        have e' : forD (.nm 9) (L_l_note_0 (S_l_note (n + (d + 1)))) (rngD 0 k) [.bor (cs.tail.tail.tail.map .int), .v (.int (o : Int)), .v (.str (St lets)), .v (.int c1), .v (.str (St w)), .v (.int c2), .v (.str (St lab)), .v (.int c3), .own [], .un] = _ := e
        simp at e'
        by_cases hc2 : c2 % 2 = 1
        · rw [if_pos hc2] at hlab
          subst hlab
          simp [e1, e2, e3, d62, d16, hk1, hk2, sgl, sge, ew, el, hc2, hc0, ho6, hk, hr, e', gTuple, nt]
        · rw [if_neg hc2] at hlab
          subst hlab
          simp [e1, e2, e3, d62, d16, hk1, hk2, sgl, sge, ew, el, hc2, hc0, ho6, hk, hr, e', gTuple, nt]
      · have jl := joinL_len (ps.map (·.2))
        have pl : (ps.map (·.2)).length = k := by simp [hpl]
        have hJ : (TL.joinL [44] (ps.map (·.2))).length ≤ ((ps.map (·.2)).map (·.length)).sum + 2 := by
          split at jl
          · rename_i hz
            have hz2 := congrArg List.length hz
            rw [List.length_nil] at hz2
            omega
          · omega
        have hz : ps = [] ∨ ps ≠ [] := Classical.em _
        simp only [List.length_append, List.length_cons, List.length_nil]
        rw [p3] at hps
        rw [p0]
        have : (if cs.length = 0 then 0 else 45) = 45 := if_neg (by omega)
        rw [this]
        have h45 : (if cs.length - 3 = 0 then 0 else 45) ≤ 45 := by split <;> omega
        omega
theorem text_show : ∀ n, S_l_text n = S_show_note n
  | 0 => rfl
  | n + 1 => by
    show U_l_text (S_l_text n) = U_show_note (S_show_note n)
    rw [text_show n]
    rfl
theorem zip_self (xs : List D) : zipD xs xs = xs.map fun x => .tup [x, x] := by
  unfold zipD
  induction xs with
  | nil => rfl
  | cons x xs ih => simp [ih]
theorem alike_val : ∀ (d : Nat) (x : D) (t : List Nat), Nx d x t → ∀ m, S_l_alike (m + d + 1) [x, x] = .ok (.bl true) := by
  have leaf : ∀ (k : Nat) (lab w : List Nat), S_l_alike (k + 1) [nt lab w .non, nt lab w .non] = .ok (.bl true) := by
    intro k lab w
    show U_l_alike _ _ = _
    apply runD_rt
    simp [nt]
  intro d
  induction d with
  | zero =>
    intro x t ⟨lab, w, hl, hw, ex, et⟩ m
    subst ex
    exact leaf _ lab w
  | succ d ih =>
    intro x t h m
    obtain ⟨lab, w, hl, hw, ⟨ex, et⟩ | ⟨ps, hp, hps, ex, et⟩⟩ := h
    · subst ex
      exact leaf _ lab w
    · subst ex
      have l6 : ps.length ≤ sizeLine := small_line (by omega)
      have e1 : ∀ y z, lcD (.tp [.nm 2, .nm 3]) tTrue (eCall (S_l_alike (m + (d + 1))) (aCons (eV 2) (aCons (eV 3) aNil))) [y, z, .un, .un] ((ps.map (·.1)).map fun x => .tup [x, x]) = .ok ((ps.map (·.1)).map fun _ => D.bl true) := fun y z =>
        lcD_mapL _ _ _ fun x hx => ⟨_, by simp; rfl, by simp, by
          obtain ⟨p, hp, rfl⟩ := List.mem_map.mp hx
          have e : S_l_alike (m + (d + 1)) [p.1, p.1] = .ok (.bl true) := ih p.1 p.2 (hps p hp) m
          simp [e]⟩
      have e2 := gAll_map (ps.map (·.1)) (fun _ => true)
      show U_l_alike _ _ = _
      apply runD_rt
      simp at e1 e2
      simp [nt, wipeD, zip_self, e1, e2, l6]
theorem law_true (ns : List Int) (h : ns.length ≤ 63) : S_law [.lst (ns.map D.int)] = .ok (.bl true) := by
  obtain ⟨cs, hcs⟩ : ∃ cs, cutL ns none (some 64) = cs := ⟨_, rfl⟩
  have hcl : cs.length ≤ 63 := by rw [← hcs]; exact Nat.le_trans (cutL_len _ _ _) h
  obtain ⟨x, t, ds, e1, hx, ht⟩ := note_made 6 63 0 cs rfl
  have e1' : S_l_note 70 (cs.map .int) [.int 0] = .ok (x, ds.map D.int) := e1
  have hph : phi cs ≤ 26 * 63 + 45 := by unfold phi; split <;> omega
  have htl : t.length ≤ 2000 := by omega
  have e2 : S_show_note 70 [x] = .ok (.str (St t)) := show_val 6 x t hx (by omega) 63
  have e3 := read_val hx htl
  have e4 : S_l_alike 70 [x, x] = .ok (.bl true) := alike_val 6 x t hx 63
  have l1 : ns.length ≤ sizeLine := small_line (by omega)
  apply runD_rt
  simp [hcs, e1', text_show, e2, e3, e4, l1]
end Law

open PySem PySem.W
set_option maxRecDepth 100000 in
set_option maxHeartbeats 0 in
theorem PySem.Challenge.cw_countgen_k01_a_note_read_holds : PySem.Challenge.rw_countgen_k01_a_note_read.Holds := by
  w_on; o_law; k_head; (case hw => w_witness2)
  k_fill
  refine L2.walk_of (l := PySem.Challenge.rw_countgen_k01_a_note_read) (n := 63) (k := 74) (x := "_law_script") (CX := fun w => L2.CX (PySem.W.OpenLaw.prog PySem.Challenge.rw_countgen_k01_a_note_read) w) (sp := fun w => Fs.spD _ (fun _ => 0) 1 (Fs.hush Law.S_law)) rfl (by decide) rfl ⟨rfl, by decide, by decide⟩ (fun w h Y => PySem.W.kIn_of Y) ?F
    (fun w H a ns hl _ hS => Fs.law_sp hS (Fs.hush_ok (Law.law_true ns hl))) (fun _ _ _ _ _ h => Fs.law_cx h)
  case F =>
    intro w mg fa h KX G hmg
    refine' Law.all_mk KX G hmg ?c0 ?c1 ?c2 ?c3 ?c4 ?c5 ?c6 ?c7 ?c8 ?c9 ?c10 ?c11 ?c12 ?c13 ?c14 ?c15 ?c16 ?c17 ?c18 ?c19 ?c20 ?c21 ?c22 ?c23 ?c24 ?c25 ?c26 ?c27 ?c28 ?c29 ?c30 ?c31 ?c32 ?c33 ?c34 ?c35 ?c36 ?c37 ?c38 ?c39 ?c40 ?c41 ?c42 ?c43 ?c44 ?c45 ?c46 ?c47 ?c48 ?c49 ?c50 ?c51 ?c52 ?c53 ?c54 ?c55 ?c56 ?c57 ?c58 ?c59 ?c60 ?c61 ?c62 ?c63 ?c64 ?c65 ?c66 ?c67 ?c68 ?c69 ?c70 ?c71 ?c72 ?c73 ?c74 ?c75 ?c76 ?c77
    (case c0 => k_is); (case c1 => k_is); (case c2 => k_is); (case c3 => k_is); (case c4 => k_is); (case c5 => k_is); (case c6 => k_is); (case c7 => k_is); (case c8 => k_is); (case c9 => k_is); (case c10 => k_is); (case c11 => k_is); (case c12 => k_is); (case c13 => k_is); (case c14 => k_is); (case c15 => k_is); (case c16 => k_is); (case c17 => k_is); (case c18 => k_is); (case c19 => k_is); (case c20 => k_is); (case c21 => k_is); (case c22 => k_is); (case c23 => k_is); (case c24 => k_is); (case c25 => k_is); (case c26 => k_is); (case c27 => k_is); (case c28 => k_is); (case c29 => k_is); (case c30 => k_is); (case c31 => k_is); (case c32 => k_is); (case c33 => k_is); (case c34 => k_is); (case c35 => k_is); (case c36 => k_is); (case c37 => k_is); (case c38 => k_is); (case c39 => k_is); (case c40 => k_is); (case c41 => k_is); (case c42 => k_is); (case c43 => k_is); (case c44 => k_is); (case c45 => k_is); (case c46 => k_is); (case c47 => k_is); (case c48 => k_is); (case c49 => k_is); (case c50 => k_is); (case c51 => k_is); (case c52 => k_is); (case c53 => k_is); (case c54 => k_is); (case c55 => k_is); (case c56 => k_is); (case c57 => k_is); (case c58 => k_is); (case c59 => k_is); (case c60 => k_is); (case c61 => k_is); (case c62 => k_is); (case c63 => k_is); (case c64 => k_is); (case c65 => k_is); (case c66 => k_is); (case c67 => k_is); (case c68 => k_exc); (case c69 => k_is); (case c70 => k_is); (case c71 => k_is); (case c72 => k_is); (case c73 => k_is); (case c74 => k_exc); (case c75 => k_is); (case c76 => k_is); (case c77 => k_is)
