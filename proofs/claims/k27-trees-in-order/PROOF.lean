import PyProof.Rows.All
import HandS.ForMost
import HandS.ForExc
import HandS.WideBits
import HandS.Wide
import HandS.TupAny
import HandS.IsInst
import HandS.Style
import HandS.RevRange
import HandS.Zip
import HandS.TryOnly
import HandS.ExcOwn
import HandS.ExcIs
import KE.GoesEnum
import HandS.HotCalls
import PySem.Challenge.RW_countgen_k27_trees_in_order
set_option Elab.async false
set_option linter.all false
set_option maxRecDepth 100000
set_option autoImplicit false
/-! F1: data without addresses, what stands for it in a heap, slots of a frame, and the lift of a function over data to a reading. -/
namespace Fs
open PySem L2

inductive D where
  | non | bl (b : Bool) | int (i : Int) | str (x : Str) | tup (xs : List D) | lst (xs : List D) | fn (a : Addr) | dct (ks : List Key) (ds : List D)
  deriving Inhabited

mutual
inductive Rep (K : PySem.W.Frag) (G : Hp) : D → V → Prop
  | non : Rep K G .non .non
  | bl (b : Bool) : Rep K G (.bl b) (.bl b)
  | int (i : Int) : Rep K G (.int i) (.int i)
  | str (x : Str) : Rep K G (.str x) (.str x)
  | fn (a : Addr) : Rep K G (.fn a) (.ref a)
  | tup {a : Addr} {vs : List V} {ds : List D} : SqT K G a vs → RepL K G ds vs → Rep K G (.tup ds) (.ref a)
  | lst {a : Addr} {vs : List V} {ds : List D} : SqL K G a vs → RepL K G ds vs → Rep K G (.lst ds) (.ref a)
  | dct {a : Addr} {vs : List V} {ks : List Key} {ds : List D} : G a = some (.dK (ks.zip vs)) → ks.length = ds.length → RepL K G ds vs → Rep K G (.dct ks ds) (.ref a)
inductive RepL (K : PySem.W.Frag) (G : Hp) : List D → List V → Prop
  | nil : RepL K G [] []
  | cons {d : D} {v : V} {ds : List D} {vs : List V} : Rep K G d v → RepL K G ds vs → RepL K G (d :: ds) (v :: vs)
end

theorem rd_mono {G G' : Hp} {a : Addr} {u : HO} (e : Same G G') (h : Rd G a u) : Rd G' a u := by
  rcases h with h | ⟨o, h⟩
  · exact .inl (e _ _ h)
  · exact .inr ⟨o, e _ _ h⟩
theorem sqt_mono {K : PySem.W.Frag} {G G' : Hp} {a : Addr} {xs : List V} (e : Same G G') (h : SqT K G a xs) : SqT K G' a xs := by
  rcases h with h | h
  · exact .inl (rd_mono e h)
  · exact .inr h
mutual
theorem Rep.mono {K : PySem.W.Frag} {G G' : Hp} (e : Same G G') : ∀ {d : D} {v : V}, Rep K G d v → Rep K G' d v
  | _, _, .non => .non
  | _, _, .bl b => .bl b
  | _, _, .int i => .int i
  | _, _, .str x => .str x
  | _, _, .fn a => .fn a
  | _, _, .tup h r => .tup (sqt_mono e h) (RepL.mono e r)
  | _, _, .lst h r => .lst (e.seq h) (RepL.mono e r)
  | _, _, .dct h l r => .dct (e _ _ h) l (RepL.mono e r)
theorem RepL.mono {K : PySem.W.Frag} {G G' : Hp} (e : Same G G') : ∀ {ds : List D} {vs : List V}, RepL K G ds vs → RepL K G' ds vs
  | _, _, .nil => .nil
  | _, _, .cons h r => .cons (Rep.mono e h) (RepL.mono e r)
end
section
variable {K : PySem.W.Frag} {G G' : Hp}
theorem RepL.length : ∀ {ds : List D} {vs : List V}, RepL K G ds vs → ds.length = vs.length
  | _, _, .nil => rfl
  | _, _, .cons _ r => by simp [RepL.length r]
theorem RepL.get : ∀ {ds : List D} {vs : List V} {i : Nat} {d : D}, RepL K G ds vs → ds[i]? = some d → ∃ v, vs[i]? = some v ∧ Rep K G d v
  | _, _, 0, _, .cons h _, e => by simp at e; subst e; exact ⟨_, rfl, h⟩
  | _, _, i + 1, d, .cons _ r, e => by
    obtain ⟨v, h1, h2⟩ := RepL.get (i := i) (d := d) r (by simpa using e)
    exact ⟨v, by simpa using h1, h2⟩
theorem RepL.getV : ∀ {ds : List D} {vs : List V} {i : Nat} {v : V}, RepL K G ds vs → vs[i]? = some v → ∃ d, ds[i]? = some d ∧ Rep K G d v
  | _, _, 0, _, .cons h _, e => by simp at e; subst e; exact ⟨_, rfl, h⟩
  | _, _, i + 1, v, .cons _ r, e => by
    obtain ⟨d, h1, h2⟩ := RepL.getV (i := i) (v := v) r (by simpa using e)
    exact ⟨d, by simpa using h1, h2⟩
theorem RepL.append : ∀ {ds es : List D} {vs us : List V}, RepL K G ds vs → RepL K G es us → RepL K G (ds ++ es) (vs ++ us)
  | _, _, _, _, .nil, s => s
  | _, _, _, _, .cons h r, s => .cons h (RepL.append r s)
theorem RepL.one {d : D} {v : V} (h : Rep K G d v) : RepL K G [d] [v] := .cons h .nil
theorem RepL.set : ∀ {ds : List D} {vs : List V} {d : D} {v : V} (i : Nat), RepL K G ds vs → Rep K G d v → RepL K G (ds.set i d) (vs.set i v)
  | _, _, _, _, _, .nil, _ => .nil
  | _, _, _, _, 0, .cons _ r, h => .cons h r
  | _, _, _, _, i + 1, .cons q r, h => .cons q (RepL.set i r h)
theorem RepL.take : ∀ {ds : List D} {vs : List V} (n : Nat), RepL K G ds vs → RepL K G (ds.take n) (vs.take n)
  | _, _, 0, _ => .nil
  | _, _, _ + 1, .nil => .nil
  | _, _, n + 1, .cons h r => .cons h (RepL.take n r)
theorem RepL.drop : ∀ {ds : List D} {vs : List V} (n : Nat), RepL K G ds vs → RepL K G (ds.drop n) (vs.drop n)
  | _, _, 0, r => r
  | _, _, _ + 1, .nil => .nil
  | _, _, n + 1, .cons _ r => RepL.drop n r
theorem RepL.reverse : ∀ {ds : List D} {vs : List V}, RepL K G ds vs → RepL K G ds.reverse vs.reverse
  | _, _, .nil => .nil
  | _, _, .cons h r => by
    rw [List.reverse_cons, List.reverse_cons]
    exact RepL.append (RepL.reverse r) (RepL.one h)
theorem RepL.ints : ∀ ns : List Int, RepL K G (ns.map D.int) (ns.map V.int)
  | [] => .nil
  | n :: r => .cons (.int n) (RepL.ints r)
theorem RepL.of_ints : ∀ {ns : List Int} {vs : List V}, RepL K G (ns.map D.int) vs → vs = ns.map V.int
  | [], _, .nil => rfl
  | _ :: _, _, .cons (.int _) r => by rw [RepL.of_ints r]; rfl
theorem RepL.of_bls : ∀ {bs : List Bool} {vs : List V}, RepL K G (bs.map D.bl) vs → vs = bs.map V.bl
  | [], _, .nil => rfl
  | _ :: _, _, .cons (.bl _) r => by rw [RepL.of_bls r]; rfl
theorem RepL.of_strs : ∀ {bs : List Str} {vs : List V}, RepL K G (bs.map D.str) vs → vs = bs.map V.str
  | [], _, .nil => rfl
  | _ :: _, _, .cons (.str _) r => by rw [RepL.of_strs r]; rfl
end

/-- a step: what was frozen is so still, what was tracked stands, what is newly frozen was not tracked -/
structure Stp (G H G' H' : Hp) : Prop where
  g : Same G G'
  h : Same H H'
  sub : Same G' H'
  nw : ∀ a, G' a ≠ none → G a ≠ none ∨ H a = none
theorem Stp.refl {G H : Hp} (s : Same G H) : Stp G H G H := ⟨Same.refl _, Same.refl _, s, fun _ h => .inl h⟩
theorem Stp.trans {G H G1 H1 G2 H2 : Hp} (a : Stp G H G1 H1) (b : Stp G1 H1 G2 H2) : Stp G H G2 H2 :=
  ⟨a.g.trans b.g, a.h.trans b.h, b.sub, fun c hc => (b.nw c hc).elim (a.nw c) fun z => .inr (a.h.free z)⟩
theorem same_new {H : Hp} {p : Addr} (h : H p = none) (o : HO) : Same H (upd H p o) := fun b u q => by rw [upd_ne (ne_of_none q h)]; exact q
theorem same_upd {G H : Hp} {p : Addr} {o : HO} (s : Same G H) : Same (upd G p o) (upd H p o) := fun b u q => by
  unfold upd at *
  by_cases e : b = p
  · rw [if_pos e] at q ⊢
    exact q
  · rw [if_neg e] at q ⊢
    exact s _ _ q
/-- a new object, frozen at once -/
theorem Stp.new {G H : Hp} {p : Addr} (s : Same G H) (h : H p = none) (o : HO) : Stp G H (upd G p o) (upd H p o) :=
  ⟨same_new (s.free h) o, same_new h o, same_upd s, fun a ha => by
    by_cases e : a = p
    · exact .inr (e ▸ h)
    · rw [upd_ne e] at ha
      exact .inl ha⟩
/-- a new object, not frozen -/
theorem Stp.newH {G H : Hp} {p : Addr} (s : Same G H) (h : H p = none) (o : HO) : Stp G H G (upd H p o) :=
  ⟨Same.refl _, same_new h o, s.trans (same_new h o), fun _ ha => .inl ha⟩

inductive Slot where
  | un | v (d : D) | own (xs : List D)
  deriving Inhabited
abbrev Sl := List Slot
def Slot.isOwn : Slot → Bool
  | .own _ => true
  | _ => false
def SlotRel (K : PySem.W.Frag) (H0 G H : Hp) (x : Option V) : Slot → Prop
  | .un => True
  | .v d => ∃ v, x = some v ∧ Rep K G d v
  | .own xs => ∃ p vs, x = some (.ref p) ∧ H0 p = none ∧ G p = none ∧ H p = some (.lst vs) ∧ RepL K G xs vs

structure Ex where
  cls : String
  fs : List (Str × D)
inductive R (α : Type) where
  | ok (a : α) | exc (e : Ex) | stk
def R.bind {α β : Type} (r : R α) (k : α → R β) : R β := match r with
  | .ok a => k a
  | .exc e => .exc e
  | .stk => .stk
def R.ofO {α : Type} : Option α → R α
  | some a => .ok a
  | none => .stk

/-- what is fixed through a body: the heaps at its entry, the classes' addresses, what is wanted of an exception -/
structure Cc where
  G0 : Hp
  H0 : Hp
  ct : String → Addr
  W : WX

inductive RepF (K : PySem.W.Frag) (G : Hp) : List (Str × D) → List (Str × V) → Prop
  | nil : RepF K G [] []
  | cons {x : Str} {d : D} {v : V} {ds : List (Str × D)} {vs : List (Str × V)} : Rep K G d v → RepF K G ds vs → RepF K G ((x, d) :: ds) ((x, v) :: vs)
/-- an exception's class and own dict -/
def RepX (K : PySem.W.Frag) (ct : String → Addr) (G H : Hp) (e : Ex) (cls : Value) (dd : Option Addr) : Prop :=
  cls = .ref (ct e.cls) ∧ ((e.fs = [] ∧ dd = none) ∨ (e.fs ≠ [] ∧ ∃ d fs, dd = some d ∧ H d = some (.xd fs) ∧ G d = none ∧ RepF K G e.fs fs))

structure RE (K : PySem.W.Frag) (C : Cc) (σ : L2.St) (δ : Sl) (G H : Hp) : Prop where
  st : Stp C.G0 C.H0 G H
  len : σ.length = δ.length
  sl : ∀ (i : Nat) (s : Slot), δ[i]? = some s → SlotRel K C.H0 G H (σ[i]?.join) s
  sep : ∀ (i j : Nat) (s t : Slot) (p : Addr), i ≠ j → δ[i]? = some s → δ[j]? = some t → s.isOwn = true → t.isOwn = true → σ[i]? = some (some (.ref p)) → σ[j]? = some (some (.ref p)) → False

theorem SlotRel.step {K : PySem.W.Frag} {H0 G H G' H' : Hp} {x : Option V} {s : Slot} (t : Stp G H G' H') (h : SlotRel K H0 G H x s) : SlotRel K H0 G' H' x s := by
  cases s with
  | un => trivial
  | v d => obtain ⟨v, e, r⟩ := h; exact ⟨v, e, r.mono t.g⟩
  | own xs =>
    obtain ⟨p, vs, e, h0, hg, hh, r⟩ := h
    refine ⟨p, vs, e, h0, ?_, t.h _ _ hh, r.mono t.g⟩
    cases q : G' p with
    | none => rfl
    | some o =>
      rcases t.nw p (by rw [q]; exact fun z => nomatch z) with z | z
      · exact absurd hg z
      · rw [hh] at z; cases z
theorem RE.step {K : PySem.W.Frag} {C : Cc} {σ : L2.St} {δ : Sl} {G H G' H' : Hp} (r : RE K C σ δ G H) (t : Stp G H G' H') : RE K C σ δ G' H' :=
  ⟨r.st.trans t, r.len, fun i s h => (r.sl i s h).step t, r.sep⟩
theorem RE.sub {K : PySem.W.Frag} {C : Cc} {σ : L2.St} {δ : Sl} {G H : Hp} (r : RE K C σ δ G H) : Same G H := r.st.sub
theorem RE.val {K : PySem.W.Frag} {C : Cc} {σ : L2.St} {δ : Sl} {G H : Hp} {i : Nat} {d : D} (r : RE K C σ δ G H) (h : δ[i]? = some (.v d)) : ∃ v, σ[i]? = some (some v) ∧ Rep K G d v := by
  obtain ⟨v, e, q⟩ := r.sl i _ h
  refine ⟨v, ?_, q⟩
  cases z : σ[i]? with
  | none => rw [z] at e; cases e
  | some o => rw [z] at e; exact congrArg some e
theorem RE.ownd {K : PySem.W.Frag} {C : Cc} {σ : L2.St} {δ : Sl} {G H : Hp} {i : Nat} {xs : List D} (r : RE K C σ δ G H) (h : δ[i]? = some (.own xs)) :
    ∃ p vs, σ[i]? = some (some (.ref p)) ∧ C.H0 p = none ∧ G p = none ∧ H p = some (.lst vs) ∧ RepL K G xs vs := by
  obtain ⟨p, vs, e, q⟩ := r.sl i _ h
  refine ⟨p, vs, ?_, q⟩
  cases z : σ[i]? with
  | none => rw [z] at e; cases e
  | some o => rw [z] at e; exact congrArg some e
/-- a value is stored -/
theorem RE.setV {K : PySem.W.Frag} {C : Cc} {σ : L2.St} {δ : Sl} {G H : Hp} {d : D} {v : V} (r : RE K C σ δ G H) (i : Nat) (h : Rep K G d v) : RE K C (σ.set i (some v)) (δ.set i (.v d)) G H := by
  refine ⟨r.st, by simp [r.len], fun j s hs => ?_, fun j k s t p hjk hs ht os ot => ?_⟩
  · by_cases e : i = j
    · subst e
      have hi : i < δ.length := by
        cases q : (δ.set i (Slot.v d))[i]? with
        | none => rw [q] at hs; cases hs
        | some _ =>
          have := (List.getElem?_eq_some_iff.mp q).1
          simpa using this
      rw [List.getElem?_set_self hi] at hs
      cases hs
      have hi2 : i < σ.length := by rw [r.len]; exact hi
      rw [List.getElem?_set_self hi2]
      exact ⟨v, rfl, h⟩
    · rw [List.getElem?_set_ne e] at hs
      rw [List.getElem?_set_ne e]
      exact r.sl j s hs
  · have nj : ∀ {j : Nat} {s : Slot}, (δ.set i (Slot.v d))[j]? = some s → s.isOwn = true → i ≠ j := fun {j s} hs os e => by
      subst e
      have hi : i < δ.length := by
        have := (List.getElem?_eq_some_iff.mp hs).1
        simpa using this
      rw [List.getElem?_set_self hi] at hs
      cases hs
      cases os
    have e1 := nj hs os
    have e2 := nj ht ot
    rw [List.getElem?_set_ne e1] at hs
    rw [List.getElem?_set_ne e2] at ht
    rw [List.getElem?_set_ne e1, List.getElem?_set_ne e2]
    exact r.sep j k s t p hjk hs ht os ot
/-- a new list of the frame's own is stored -/
theorem RE.setO {K : PySem.W.Frag} {C : Cc} {σ : L2.St} {δ : Sl} {G H : Hp} {xs : List D} {vs : List V} {p : Addr} (r : RE K C σ δ G H) (i : Nat) (h0 : C.H0 p = none) (hg : G p = none) (hh : H p = some (.lst vs)) (h : RepL K G xs vs)
    (hn : ∀ (j : Nat) (s : Slot), j ≠ i → δ[j]? = some s → s.isOwn = true → σ[j]? ≠ some (some (.ref p))) : RE K C (σ.set i (some (.ref p))) (δ.set i (.own xs)) G H := by
  have inb : ∀ {j : Nat} {s : Slot}, (δ.set i (Slot.own xs))[j]? = some s → j < δ.length := fun {j s} hs => by
    have := (List.getElem?_eq_some_iff.mp hs).1
    simpa using this
  refine ⟨r.st, by simp [r.len], fun j s hs => ?_, fun j k s t q hjk hs ht os ot hj hk => ?_⟩
  · by_cases e : i = j
    · subst e
      have hi := inb hs
      rw [List.getElem?_set_self hi] at hs
      cases hs
      have hi2 : i < σ.length := by rw [r.len]; exact hi
      rw [List.getElem?_set_self hi2]
      exact ⟨p, vs, rfl, h0, hg, hh, h⟩
    · rw [List.getElem?_set_ne e] at hs
      rw [List.getElem?_set_ne e]
      exact r.sl j s hs
  · by_cases e1 : i = j
    · subst e1
      have hi2 : i < σ.length := by rw [r.len]; exact inb hs
      rw [List.getElem?_set_self hi2] at hj
      cases hj
      rw [List.getElem?_set_ne hjk] at ht hk
      exact hn k t (Ne.symm hjk) ht ot hk
    · rw [List.getElem?_set_ne e1] at hs hj
      by_cases e2 : i = k
      · subst e2
        have hi2 : i < σ.length := by rw [r.len]; exact inb ht
        rw [List.getElem?_set_self hi2] at hk
        cases hk
        exact hn j s (Ne.symm e1) hs os hj
      · rw [List.getElem?_set_ne e2] at ht hk
        exact r.sep j k s t q hjk hs ht os ot hj hk
/-- the frame's own list at slot i is changed -/
theorem RE.mutO {K : PySem.W.Frag} {C : Cc} {σ : L2.St} {δ : Sl} {G H : Hp} {xs ys : List D} {us : List V} {p : Addr} (r : RE K C σ δ G H) (i : Nat) (hi : δ[i]? = some (.own xs)) (hp : σ[i]? = some (some (.ref p))) (h : RepL K G ys us) :
    RE K C σ (δ.set i (.own ys)) G (upd H p (.lst us)) := by
  obtain ⟨p', vs, e, h0, hg, hh, _⟩ := r.ownd hi
  rw [hp] at e
  cases e
  have il : i < δ.length := (List.getElem?_eq_some_iff.mp hi).1
  refine ⟨⟨r.st.g, fun a o ho => ?_, fun a o ho => ?_, r.st.nw⟩, by simp [r.len], fun j s hs => ?_, fun j k s t q hjk hs ht os ot hj hk => ?_⟩
  · rw [upd_ne (ne_of_none ho h0)]
    exact r.st.h _ _ ho
  · rw [upd_ne (ne_of_none ho hg)]
    exact r.st.sub _ _ ho
  · by_cases e : i = j
    · subst e
      rw [List.getElem?_set_self il] at hs
      cases hs
      rw [hp]
      exact ⟨p, us, rfl, h0, hg, upd_same, h⟩
    · rw [List.getElem?_set_ne e] at hs
      have z := r.sl j s hs
      cases s with
      | un => trivial
      | v d => exact z
      | own zs =>
        obtain ⟨p2, vs2, e2, h02, hg2, hh2, r2⟩ := z
        refine ⟨p2, vs2, e2, h02, hg2, ?_, r2⟩
        rw [upd_ne]
        · exact hh2
        · intro ee
          subst ee
          have hj : σ[j]? = some (some (.ref p2)) := by
            cases z : σ[j]? with
            | none => rw [z] at e2; cases e2
            | some o => rw [z] at e2; exact congrArg some e2
          exact r.sep i j _ _ p2 e hi hs rfl rfl hp hj
  · have gt : ∀ {j : Nat} {s : Slot}, (δ.set i (Slot.own ys))[j]? = some s → s.isOwn = true → ∃ s', δ[j]? = some s' ∧ s'.isOwn = true := fun {j s} hs os => by
      by_cases e : i = j
      · subst e
        exact ⟨_, hi, rfl⟩
      · rw [List.getElem?_set_ne e] at hs
        exact ⟨s, hs, os⟩
    obtain ⟨s', hs', os'⟩ := gt hs os
    obtain ⟨t', ht', ot'⟩ := gt ht ot
    exact r.sep j k s' t' q hjk hs' ht' os' ot' hj hk
/-- the frame's own list at slot i is frozen -/
theorem RE.frz {K : PySem.W.Frag} {C : Cc} {σ : L2.St} {δ : Sl} {G H : Hp} {xs : List D} (r : RE K C σ δ G H) (i : Nat) (hi : δ[i]? = some (.own xs)) :
    ∃ p vs, σ[i]? = some (some (.ref p)) ∧ C.H0 p = none ∧ G p = none ∧ H p = some (.lst vs) ∧ RE K C σ (δ.set i (.v (.lst xs))) (upd G p (.lst vs)) H := by
  obtain ⟨p, vs, hp, h0, hg, hh, rl⟩ := r.ownd hi
  have il : i < δ.length := (List.getElem?_eq_some_iff.mp hi).1
  have sg : Same G (upd G p (.lst vs)) := same_new hg _
  refine ⟨p, vs, hp, h0, hg, hh, ⟨r.st.g.trans sg, r.st.h, fun a o ho => ?_, fun a ha => ?_⟩, by simp [r.len], fun j s hs => ?_, fun j k s t q hjk hs ht os ot hj hk => ?_⟩
  · by_cases e : a = p
    · subst e
      rw [upd_same] at ho
      cases ho
      exact hh
    · rw [upd_ne e] at ho
      exact r.st.sub _ _ ho
  · by_cases e : a = p
    · exact .inr (e ▸ h0)
    · rw [upd_ne e] at ha
      exact r.st.nw a ha
  · by_cases e : i = j
    · subst e
      rw [List.getElem?_set_self il] at hs
      cases hs
      rw [hp]
      exact ⟨.ref p, rfl, .lst (SqL.of upd_same) (rl.mono sg)⟩
    · rw [List.getElem?_set_ne e] at hs
      have z := r.sl j s hs
      cases s with
      | un => trivial
      | v d => obtain ⟨v, e, q⟩ := z; exact ⟨v, e, q.mono sg⟩
      | own zs =>
        obtain ⟨p2, vs2, e2, h02, hg2, hh2, r2⟩ := z
        refine ⟨p2, vs2, e2, h02, ?_, hh2, r2.mono sg⟩
        rw [upd_ne]
        · exact hg2
        · intro ee
          subst ee
          have hj : σ[j]? = some (some (.ref p2)) := by
            cases z : σ[j]? with
            | none => rw [z] at e2; cases e2
            | some o => rw [z] at e2; exact congrArg some e2
          exact r.sep i j _ _ p2 e hi hs rfl rfl hp hj
  · have nj : ∀ {j : Nat} {s : Slot}, (δ.set i (Slot.v (.lst xs)))[j]? = some s → s.isOwn = true → i ≠ j := fun {j s} hs os e => by
      subst e
      rw [List.getElem?_set_self il] at hs
      cases hs
      cases os
    have e1 := nj hs os
    have e2 := nj ht ot
    rw [List.getElem?_set_ne e1] at hs
    rw [List.getElem?_set_ne e2] at ht
    exact r.sep j k s t q hjk hs ht os ot hj hk
end Fs

/-! F2: expressions, tests, arguments. -/
namespace Fs
open PySem L2

abbrev E := Sl → R D
abbrev T := Sl → R Bool
abbrev As := Sl → R (List D)

/-- an exception's way -/
def onX (K : PySem.W.Frag) (C : Cc) (σ : L2.St) (G H : Hp) (e : Ex) : Prop := ∀ cls dd G' H', Stp G H G' H' → RepX K C.ct G' H' e cls dd → C.W cls dd σ H'
def onR (K : PySem.W.Frag) (C : Cc) (σ : L2.St) (G H : Hp) (r : R D) (P : D → V → Hp → Hp → Prop) : Prop := match r with
  | .ok d => ∀ v G' H', Stp G H G' H' → Rep K G' d v → P d v G' H'
  | .exc e => onX K C σ G H e
  | .stk => False
def onB (K : PySem.W.Frag) (C : Cc) (σ : L2.St) (G H : Hp) (r : R Bool) (P : Bool → Hp → Hp → Prop) : Prop := match r with
  | .ok b => ∀ G' H', Stp G H G' H' → P b G' H'
  | .exc e => onX K C σ G H e
  | .stk => False
def onA (K : PySem.W.Frag) (C : Cc) (σ : L2.St) (G H : Hp) (r : R (List D)) (P : List D → List V → Hp → Hp → Prop) : Prop := match r with
  | .ok ds => ∀ vs G' H', Stp G H G' H' → RepL K G' ds vs → P ds vs G' H'
  | .exc e => onX K C σ G H e
  | .stk => False

def liftE (K : PySem.W.Frag) (C : Cc) (f : E) : TE := fun σ H Q => ∃ δ G, RE K C σ δ G H ∧ onR K C σ G H (f δ) fun _ v _ H' => Q v H'
def liftT (K : PySem.W.Frag) (C : Cc) (f : T) : TT := fun σ H Q => ∃ δ G, RE K C σ δ G H ∧ onB K C σ G H (f δ) fun b _ H' => Q b H'
def liftA (K : PySem.W.Frag) (C : Cc) (f : As) : TA := fun σ H Q => ∃ δ G, RE K C σ δ G H ∧ onA K C σ G H (f δ) fun _ vs _ H' => Q vs H'
abbrev SE (X : Cx) (C : Cc) (e : Expr) (f : E) : Prop := PE X e (liftE X.K C f)
abbrev ST (X : Cx) (C : Cc) (e : Expr) (f : T) : Prop := PT X e (liftT X.K C f)
abbrev SA (X : Cx) (C : Cc) (es : List Expr) (f : As) : Prop := PA X es (liftA X.K C f)

theorem pe_weak {X : Cx} {e : Expr} {t t' : TE} (h : PE X e t) (w : ∀ σ H Q, t' σ H Q → t σ H Q) : PE X e t' := ⟨fun pins s σ H Q I z => h.run pins s σ H Q I (w σ H Q z)⟩
theorem pt_weak {X : Cx} {e : Expr} {t t' : TT} (h : PT X e t) (w : ∀ σ H Q, t' σ H Q → t σ H Q) : PT X e t' := ⟨fun pins s σ H Q I z => h.run pins s σ H Q I (w σ H Q z)⟩
theorem pw_weak {X : Cx} {e : Expr} {t t' : TT} (h : PW X e t) (w : ∀ σ H Q, t' σ H Q → t σ H Q) : PW X e t' := ⟨fun wh pins s σ H Q I z => h.run wh pins s σ H Q I (w σ H Q z)⟩
theorem pa_weak {X : Cx} {e : List Expr} {t t' : TA} (h : PA X e t) (w : ∀ σ H Q, t' σ H Q → t σ H Q) : PA X e t' := ⟨fun pos pins s σ H Q I z => h.run pos pins s σ H Q I (w σ H Q z)⟩

section
variable {K : PySem.W.Frag} {C : Cc} {σ : L2.St} {G H : Hp}
theorem onX_step {e : Ex} {G' H' : Hp} (h : onX K C σ G H e) (s : Stp G H G' H') : onX K C σ G' H' e := fun cls dd G2 H2 t r => h cls dd G2 H2 (s.trans t) r
theorem onR_mono {r : R D} {P P' : D → V → Hp → Hp → Prop} (h : onR K C σ G H r P) (w : ∀ d v G' H', Stp G H G' H' → Rep K G' d v → P d v G' H' → P' d v G' H') : onR K C σ G H r P' := by
  cases r with
  | ok d => exact fun v G' H' s q => w d v G' H' s q (h v G' H' s q)
  | exc e => exact h
  | stk => exact h
theorem onB_mono {r : R Bool} {P P' : Bool → Hp → Hp → Prop} (h : onB K C σ G H r P) (w : ∀ b G' H', Stp G H G' H' → P b G' H' → P' b G' H') : onB K C σ G H r P' := by
  cases r with
  | ok d => exact fun G' H' s => w d G' H' s (h G' H' s)
  | exc e => exact h
  | stk => exact h
theorem onA_mono {r : R (List D)} {P P' : List D → List V → Hp → Hp → Prop} (h : onA K C σ G H r P) (w : ∀ d v G' H', Stp G H G' H' → RepL K G' d v → P d v G' H' → P' d v G' H') : onA K C σ G H r P' := by
  cases r with
  | ok d => exact fun v G' H' s q => w d v G' H' s q (h v G' H' s q)
  | exc e => exact h
  | stk => exact h
/-- one after another -/
theorem onR_RR {r : R D} {k : D → R D} {P : D → V → Hp → Hp → Prop} (h : onR K C σ G H (r.bind k) P) : onR K C σ G H r fun d _ G1 H1 => onR K C σ G1 H1 (k d) P := by
  cases r with
  | ok d =>
    intro v G1 H1 s q
    have h' : onR K C σ G H (k d) P := h
    show onR K C σ G1 H1 (k d) P
    cases e : k d with
    | ok d2 => rw [e] at h'; exact fun v2 G2 H2 s2 q2 => h' v2 G2 H2 (s.trans s2) q2
    | exc e2 => rw [e] at h'; exact onX_step h' s
    | stk => rw [e] at h'; exact h'
  | exc e => exact h
  | stk => exact h
theorem onR_RB {r : R D} {k : D → R Bool} {P : Bool → Hp → Hp → Prop} (h : onB K C σ G H (r.bind k) P) : onR K C σ G H r fun d _ G1 H1 => onB K C σ G1 H1 (k d) P := by
  cases r with
  | ok d =>
    intro v G1 H1 s q
    have h' : onB K C σ G H (k d) P := h
    show onB K C σ G1 H1 (k d) P
    cases e : k d with
    | ok d2 => rw [e] at h'; exact fun G2 H2 s2 => h' G2 H2 (s.trans s2)
    | exc e2 => rw [e] at h'; exact onX_step h' s
    | stk => rw [e] at h'; exact h'
  | exc e => exact h
  | stk => exact h
theorem onB_BB {r : R Bool} {k : Bool → R Bool} {P : Bool → Hp → Hp → Prop} (h : onB K C σ G H (r.bind k) P) : onB K C σ G H r fun d G1 H1 => onB K C σ G1 H1 (k d) P := by
  cases r with
  | ok d =>
    intro G1 H1 s
    have h' : onB K C σ G H (k d) P := h
    show onB K C σ G1 H1 (k d) P
    cases e : k d with
    | ok d2 => rw [e] at h'; exact fun G2 H2 s2 => h' G2 H2 (s.trans s2)
    | exc e2 => rw [e] at h'; exact onX_step h' s
    | stk => rw [e] at h'; exact h'
  | exc e => exact h
  | stk => exact h
theorem onB_BR {r : R Bool} {k : Bool → R D} {P : D → V → Hp → Hp → Prop} (h : onR K C σ G H (r.bind k) P) : onB K C σ G H r fun d G1 H1 => onR K C σ G1 H1 (k d) P := by
  cases r with
  | ok d =>
    intro G1 H1 s
    have h' : onR K C σ G H (k d) P := h
    show onR K C σ G1 H1 (k d) P
    cases e : k d with
    | ok d2 => rw [e] at h'; exact fun v2 G2 H2 s2 q2 => h' v2 G2 H2 (s.trans s2) q2
    | exc e2 => rw [e] at h'; exact onX_step h' s
    | stk => rw [e] at h'; exact h'
  | exc e => exact h
  | stk => exact h
theorem onR_RA {r : R D} {k : D → R (List D)} {P : List D → List V → Hp → Hp → Prop} (h : onA K C σ G H (r.bind k) P) : onR K C σ G H r fun d _ G1 H1 => onA K C σ G1 H1 (k d) P := by
  cases r with
  | ok d =>
    intro v G1 H1 s q
    have h' : onA K C σ G H (k d) P := h
    show onA K C σ G1 H1 (k d) P
    cases e : k d with
    | ok d2 => rw [e] at h'; exact fun v2 G2 H2 s2 q2 => h' v2 G2 H2 (s.trans s2) q2
    | exc e2 => rw [e] at h'; exact onX_step h' s
    | stk => rw [e] at h'; exact h'
  | exc e => exact h
  | stk => exact h
theorem onA_AR {r : R (List D)} {k : List D → R D} {P : D → V → Hp → Hp → Prop} (h : onR K C σ G H (r.bind k) P) : onA K C σ G H r fun ds _ G1 H1 => onR K C σ G1 H1 (k ds) P := by
  cases r with
  | ok d =>
    intro v G1 H1 s q
    have h' : onR K C σ G H (k d) P := h
    show onR K C σ G1 H1 (k d) P
    cases e : k d with
    | ok d2 => rw [e] at h'; exact fun v2 G2 H2 s2 q2 => h' v2 G2 H2 (s.trans s2) q2
    | exc e2 => rw [e] at h'; exact onX_step h' s
    | stk => rw [e] at h'; exact h'
  | exc e => exact h
  | stk => exact h
theorem onA_AA {r : R (List D)} {k : List D → R (List D)} {P : List D → List V → Hp → Hp → Prop} (h : onA K C σ G H (r.bind k) P) : onA K C σ G H r fun ds _ G1 H1 => onA K C σ G1 H1 (k ds) P := by
  cases r with
  | ok d =>
    intro v G1 H1 s q
    have h' : onA K C σ G H (k d) P := h
    show onA K C σ G1 H1 (k d) P
    cases e : k d with
    | ok d2 => rw [e] at h'; exact fun v2 G2 H2 s2 q2 => h' v2 G2 H2 (s.trans s2) q2
    | exc e2 => rw [e] at h'; exact onX_step h' s
    | stk => rw [e] at h'; exact h'
  | exc e => exact h
  | stk => exact h
theorem onR_self {d : D} {v : V} {P : D → V → Hp → Hp → Prop} (sub : Same G H) (h : onR K C σ G H (.ok d) P) (r : Rep K G d v) : P d v G H := h v G H (Stp.refl sub) r
theorem onB_self {b : Bool} {P : Bool → Hp → Hp → Prop} (sub : Same G H) (h : onB K C σ G H (.ok b) P) : P b G H := h G H (Stp.refl sub)
end

/-! ### names and constants -/
def eV (i : Nat) : E := fun δ => match δ[i]? with
  | some (.v d) => .ok d
  | _ => .stk
def eC (d : D) : E := fun _ => .ok d
section
variable {X : Cx} {C : Cc} {pos : Pos}
theorem se_var (i : Nat) {x : Str} (hN : X.N[i]? = some x := by rfl) (hv : Vis X.env.scope x := by first | exact Or.inl rfl | exact Or.inr (Or.inl rfl) | exact Or.inr (Or.inr rfl)) (hd : (x == ("__debug__" : Str)) = false := by decide)
    (hcd : (x == ("__classdict__" : Str)) = false := by decide) : SE X C (.Name x pos) (eV i) :=
  pe_weak (pe_var hN hv hd hcd) fun σ H Q ⟨δ, G, re, h⟩ => by
    unfold eV at h
    cases e : δ[i]? with
    | none => rw [e] at h; exact h.elim
    | some s =>
      rw [e] at h
      cases s with
      | un => exact h.elim
      | own xs => exact h.elim
      | v d =>
        obtain ⟨v, ev, rv⟩ := re.val e
        exact ⟨v, ev, onR_self re.sub h rv⟩
theorem se_int {i : Int} {j : Nat} : SE X C (.Constant (.int i) j pos) (eC (.int i)) := pe_weak pe_int fun σ H Q ⟨δ, G, re, h⟩ => onR_self re.sub h (.int i)
theorem se_bl {b : Bool} {j : Nat} : SE X C (.Constant (.bool b) j pos) (eC (.bl b)) := pe_weak pe_bl fun σ H Q ⟨δ, G, re, h⟩ => onR_self re.sub h (.bl b)
theorem se_non {j : Nat} : SE X C (.Constant .none j pos) (eC .non) := pe_weak pe_non fun σ H Q ⟨δ, G, re, h⟩ => onR_self re.sub h .non
theorem se_str {x : Str} {j : Nat} : SE X C (.Constant (.str x) j pos) (eC (.str x)) := pe_weak pe_str fun σ H Q ⟨δ, G, re, h⟩ => onR_self re.sub h (.str x)
/-- a constant of the module -/
theorem se_glob {x : Str} {d : D} {v : V} {u : Value} (hg : Gl X x) (hm : X.mg x = some u) (r : RelV v u) (rd : ∀ G : Hp, Rep X.K G d v) (hd : (x == ("__debug__" : Str)) = false := by decide) : SE X C (.Name x pos) (eC d) :=
  pe_weak (pe_glob hg hm r hd) fun σ H Q ⟨δ, G, re, h⟩ => onR_self re.sub h (rd G)
end

/-! ### operators, by values -/
abbrev B2 := D → D → Option D
/-- what an operator's rule reads: the data of both, and what is due behind it -/
def rD (K : PySem.W.Frag) (g : B2) : R2 := fun x y H Q => ∃ G dx dy d, g dx dy = some d ∧ Same G H ∧ Rep K G dx x ∧ Rep K G dy y ∧ ∀ v G' H', Stp G H G' H' → Rep K G' d v → Q v H'
def eBin (g : B2) (a b : E) : E := fun δ => (a δ).bind fun x => (b δ).bind fun y => R.ofO (g x y)
section
variable {X : Cx} {C : Cc} {pos : Pos} {a b c : Expr} {fa fb fc : E} {g : B2}
theorem lift_bin {K : PySem.W.Frag} {σ : L2.St} {H : Hp} {Q : VK} (h : liftE K C (eBin g fa fb) σ H Q) : tOp (rD K g) (liftE K C fa) (liftE K C fb) σ H Q := by
  obtain ⟨δ, G, re, h⟩ := h
  refine ⟨δ, G, re, onR_mono (onR_RR h) fun d v G1 H1 s1 r1 h1 => ?_⟩
  refine ⟨δ, G1, re.step s1, onR_mono (onR_RR h1) fun d2 v2 G2 H2 s2 r2 h2 => ?_⟩
  cases e : g d d2 with
  | none => rw [e] at h2; exact h2.elim
  | some z =>
    rw [e] at h2
    exact ⟨G2, d, d2, z, e, s2.sub, r1.mono s2.g, r2, fun v3 G3 H3 s3 r3 => h2 v3 G3 H3 s3 r3⟩
theorem se_bin {op : Operator} (ho : OpR X (binaryOp op) (rD X.K g)) (ha : SE X C a fa) (hb : SE X C b fb) : SE X C (.BinOp a op b pos) (eBin g fa fb) :=
  pe_weak (pe_op ho ha hb) fun σ H Q h => lift_bin h
theorem se_cmp {op : CmpOp} (ho : OpR X (compareOp op) (rD X.K g)) (ha : SE X C a fa) (hb : SE X C b fb) (hm : behindInMarks op b = false := by first | exact nomark _ | rfl) : SE X C (.Compare a [op] [b] pos) (eBin g fa fb) :=
  pe_weak (pe_cmpR ho ha hb hm) fun σ H Q h => lift_bin h
/-- a value as a test: a truth -/
def tV (f : E) : T := fun δ => (f δ).bind fun d => match d with
  | .bl b => .ok b
  | _ => .stk
theorem lift_test {K : PySem.W.Frag} {f : E} {σ : L2.St} {H : Hp} {Q : Bool → Hp → Prop} (h : liftT K C (tV f) σ H Q) : liftE K C f σ H fun v H' => ∃ k, v = .bl k ∧ Q k H' := by
  obtain ⟨δ, G, re, h⟩ := h
  refine ⟨δ, G, re, onR_mono (onR_RB h) fun d v G1 H1 s1 r1 h1 => ?_⟩
  cases r1 with
  | bl k => exact ⟨k, rfl, onB_self s1.sub h1⟩
  | non => exact h1.elim
  | int i => exact h1.elim
  | str x => exact h1.elim
  | fn x => exact h1.elim
  | dct p l q => exact h1.elim
  | tup p q => exact h1.elim
  | lst p q => exact h1.elim
theorem st_cmp {op : CmpOp} (ho : OpR X (compareOp op) (rD X.K g)) (ha : SE X C a fa) (hb : SE X C b fb) (hm : behindInMarks op b = false := by first | exact nomark _ | rfl) : ST X C (.Compare a [op] [b] pos) (tV (eBin g fa fb)) := by
  refine ⟨fun pins s σ H Q I h => ?_⟩
  refine (pt_cmpR ho ha hb hm).run pins s σ H Q I ?_
  have z := lift_bin (Q := fun v H' => ∃ k, v = .bl k ∧ Q k H') (lift_test h)
  exact z
theorem st_val {e : Expr} {f : E} (h : SE X C e f) (he : ∀ whole, isTrue e X.env whole = (do let v ← whole; standAt e.pos; holding [v] (truthy v)) := by intro _; rfl) : ST X C e (tV f) :=
  pt_weak (pt_val h he) fun σ H Q z => lift_test z
/-- two comparisons in a chain -/
def eChain (g g' : B2) (a b c : E) : E := fun δ => (a δ).bind fun x => (b δ).bind fun y => (R.ofO (g x y)).bind fun z => match z with
  | .bl true => (c δ).bind fun w => R.ofO (g' y w)
  | .bl false => .ok (.bl false)
  | _ => .stk
theorem lift_chain {K : PySem.W.Frag} {g' : B2} {σ : L2.St} {H : Hp} {Q : VK} (h : liftE K C (eChain g g' fa fb fc) σ H Q) : tChain (rD K g) (rD K g') (liftE K C fa) (liftE K C fb) (liftE K C fc) σ H Q := by
  obtain ⟨δ, G, re, h⟩ := h
  refine ⟨δ, G, re, onR_mono (onR_RR h) fun d v G1 H1 s1 r1 h1 => ?_⟩
  refine ⟨δ, G1, re.step s1, onR_mono (onR_RR h1) fun d2 v2 G2 H2 s2 r2 h2 => ?_⟩
  have h3 := onR_RR h2
  cases e : g d d2 with
  | none => rw [e] at h3; exact h3.elim
  | some z =>
    rw [e] at h3
    refine ⟨G2, d, d2, z, e, s2.sub, r1.mono s2.g, r2, fun v3 G3 H3 s3 r3 => ?_⟩
    have h4 := h3 v3 G3 H3 s3 r3
    cases r3 with
    | bl k =>
      refine ⟨k, rfl, ?_⟩
      cases k with
      | true =>
        rw [if_pos rfl]
        refine ⟨δ, G3, ((re.step s1).step s2).step s3, onR_mono (onR_RR h4) fun d4 v4 G4 H4 s4 r4 h5 => ?_⟩
        cases e2 : g' d2 d4 with
        | none => rw [e2] at h5; exact h5.elim
        | some z2 =>
          rw [e2] at h5
          exact ⟨G4, d2, d4, z2, e2, s4.sub, r2.mono (s3.g.trans s4.g), r4, fun v5 G5 H5 s5 r5 => h5 v5 G5 H5 s5 r5⟩
      | false =>
        rw [if_neg Bool.false_ne_true]
        exact onR_self s3.sub h4 (.bl false)
    | non => exact h4.elim
    | int i => exact h4.elim
    | str x => exact h4.elim
    | fn x => exact h4.elim
    | dct p l q => exact h4.elim
    | tup p q => exact h4.elim
    | lst p q => exact h4.elim
theorem se_chain {op op' : CmpOp} {g' : B2} (ho : OpR X (compareOp op) (rD X.K g)) (ho' : OpR X (compareOp op') (rD X.K g')) (ha : SE X C a fa) (hb : SE X C b fb) (hc : SE X C c fc)
    (hm : lastMarks [op, op'] [b, c] = false := by with_unfolding_all rfl) : SE X C (.Compare a [op, op'] [b, c] pos) (eChain g g' fa fb fc) :=
  pe_weak (pe_chain ho ho' ha hb hc hm) fun σ H Q h => lift_chain h
theorem st_chain {op op' : CmpOp} {g' : B2} (ho : OpR X (compareOp op) (rD X.K g)) (ho' : OpR X (compareOp op') (rD X.K g')) (ha : SE X C a fa) (hb : SE X C b fb) (hc : SE X C c fc)
    (hm : lastMarks [op, op'] [b, c] = false := by with_unfolding_all rfl) : ST X C (.Compare a [op, op'] [b, c] pos) (tV (eChain g g' fa fb fc)) := by
  refine ⟨fun pins s σ H Q I h => ?_⟩
  refine (pt_chain ho ho' ha hb hc hm).run pins s σ H Q I ?_
  have z := lift_chain (Q := fun v H' => ∃ k, v = .bl k ∧ Q k H') (lift_test h)
  exact z

/-! ### not, and, or -/
def tNt (f : T) : T := fun δ => (f δ).bind fun b => .ok (!b)
def tAn (f g : T) : T := fun δ => (f δ).bind fun b => if b = true then g δ else .ok false
def tOrr (f g : T) : T := fun δ => (f δ).bind fun b => if b = true then .ok true else g δ
theorem st_not {ft : T} (h : ST X C a ft) : ST X C (.UnaryOp .Not a pos) (tNt ft) := pt_weak (pt_not h) fun σ H Q ⟨δ, G, re, h⟩ =>
  ⟨δ, G, re, onB_mono (onB_BB h) fun b G1 H1 s1 h1 => onB_self s1.sub h1⟩
theorem lift_and {K : PySem.W.Frag} {ft gt : T} {σ : L2.St} {H : Hp} {Q : Bool → Hp → Prop} (h : liftT K C (tAn ft gt) σ H Q) : tAnd (liftT K C ft) (liftT K C gt) σ H Q := by
  obtain ⟨δ, G, re, h⟩ := h
  refine ⟨δ, G, re, onB_mono (onB_BB h) fun b G1 H1 s1 h1 => ?_⟩
  cases b with
  | true => exact ⟨δ, G1, re.step s1, h1⟩
  | false => exact onB_self s1.sub h1
theorem lift_or {K : PySem.W.Frag} {ft gt : T} {σ : L2.St} {H : Hp} {Q : Bool → Hp → Prop} (h : liftT K C (tOrr ft gt) σ H Q) : tOr (liftT K C ft) (liftT K C gt) σ H Q := by
  obtain ⟨δ, G, re, h⟩ := h
  refine ⟨δ, G, re, onB_mono (onB_BB h) fun b G1 H1 s1 h1 => ?_⟩
  cases b with
  | true => exact onB_self s1.sub h1
  | false => exact ⟨δ, G1, re.step s1, h1⟩
end
/-- tests whose whole is theirs (and, or) -/
abbrev SW (X : Cx) (C : Cc) (e : Expr) (f : T) : Prop := PW X e (liftT X.K C f)
section
variable {X : Cx} {C : Cc} {pos : Pos} {a : Expr} {rest : List Expr} {ft gt : T}
theorem sw_and1 (ha : ST X C a ft) : SW X C (.BoolOp .And [a] pos) ft := pw_and1 ha
theorem sw_and {b : Expr} (ha : ST X C a ft) (hr : SW X C (.BoolOp .And (b :: rest) pos) gt) : SW X C (.BoolOp .And (a :: b :: rest) pos) (tAn ft gt) := pw_weak (pw_and ha hr) fun σ H Q h => lift_and h
theorem sw_or1 (ha : ST X C a ft) : SW X C (.BoolOp .Or [a] pos) ft := pw_or1 ha
theorem sw_or {b : Expr} (ha : ST X C a ft) (hr : SW X C (.BoolOp .Or (b :: rest) pos) gt) : SW X C (.BoolOp .Or (a :: b :: rest) pos) (tOrr ft gt) := pw_weak (pw_or ha hr) fun σ H Q h => lift_or h
end
/-! ### and, or, not as values (truths) -/
def eAn (a b : E) : E := fun δ => (a δ).bind fun x => match x with
  | .bl true => b δ
  | .bl false => .ok (.bl false)
  | _ => .stk
def eOr (a b : E) : E := fun δ => (a δ).bind fun x => match x with
  | .bl true => .ok (.bl true)
  | .bl false => b δ
  | _ => .stk
def eNt (a : E) : E := fun δ => (a δ).bind fun x => match x with
  | .bl k => .ok (.bl !k)
  | _ => .stk
section
variable {X : Cx} {C : Cc} {pos : Pos} {a b c : Expr} {fa fb fc : E} {ft : T}
theorem lift_anV {K : PySem.W.Frag} {σ : L2.St} {H : Hp} {Q : VK} (h : liftE K C (eAn fa fb) σ H Q) : tAndV (liftE K C fa) (liftE K C fb) σ H Q := by
  obtain ⟨δ, G, re, h⟩ := h
  refine ⟨δ, G, re, onR_mono (onR_RR h) fun d v G1 H1 s1 r1 h1 => ?_⟩
  cases r1 with
  | bl k =>
    refine ⟨k, rfl, ?_⟩
    cases k with
    | true => exact ⟨δ, G1, re.step s1, h1⟩
    | false => exact onR_self s1.sub h1 (.bl false)
  | non => exact h1.elim
  | int i => exact h1.elim
  | str x => exact h1.elim
  | fn x => exact h1.elim
  | dct p l q => exact h1.elim
  | tup p q => exact h1.elim
  | lst p q => exact h1.elim
theorem lift_orV {K : PySem.W.Frag} {σ : L2.St} {H : Hp} {Q : VK} (h : liftE K C (eOr fa fb) σ H Q) : tOrV (liftE K C fa) (liftE K C fb) σ H Q := by
  obtain ⟨δ, G, re, h⟩ := h
  refine ⟨δ, G, re, onR_mono (onR_RR h) fun d v G1 H1 s1 r1 h1 => ?_⟩
  cases r1 with
  | bl k =>
    refine ⟨k, rfl, ?_⟩
    cases k with
    | true => exact onR_self s1.sub h1 (.bl true)
    | false => exact ⟨δ, G1, re.step s1, h1⟩
  | non => exact h1.elim
  | int i => exact h1.elim
  | str x => exact h1.elim
  | fn x => exact h1.elim
  | dct p l q => exact h1.elim
  | tup p q => exact h1.elim
  | lst p q => exact h1.elim
theorem se_not (ha : SE X C a fa) (he : ∀ whole, isTrue a X.env whole = (do let v ← whole; standAt a.pos; holding [v] (truthy v)) := by intro _; rfl) : True := trivial
/-- a if t else b -/
def eIf (t : T) (a b : E) : E := fun δ => (t δ).bind fun k => if k = true then a δ else b δ
theorem se_if (ht : ST X C c ft) (ha : SE X C a fa) (hb : SE X C b fb) : SE X C (.IfExp c a b pos) (eIf ft fa fb) := pe_weak (pe_ifExp ht ha hb) fun σ H Q ⟨δ, G, re, h⟩ => by
  refine ⟨δ, G, re, onB_mono (onB_BR h) fun b G1 H1 s1 h1 => ?_⟩
  cases b with
  | true => exact ⟨δ, G1, re.step s1, h1⟩
  | false => exact ⟨δ, G1, re.step s1, h1⟩
end

/-! ### arguments, displays -/
def aNil : As := fun _ => .ok []
def aCons (f : E) (r : As) : As := fun δ => (f δ).bind fun x => (r δ).bind fun xs => .ok (x :: xs)
section
variable {X : Cx} {C : Cc} {pos : Pos} {e : Expr} {es : List Expr} {f : E} {r : As}
theorem sa_nil : SA X C [] aNil := pa_weak pa_nil fun σ H Q ⟨δ, G, re, h⟩ => h [] G H (Stp.refl re.sub) .nil
theorem sa_cons (ha : SE X C e f) (hr : SA X C es r) (hs : starEach (e :: es) X.env = (false, eval e X.env) :: starEach es X.env := by rfl) : SA X C (e :: es) (aCons f r) :=
  pa_weak (pa_cons ha hr hs) fun σ H Q ⟨δ, G, re, h⟩ => ⟨δ, G, re, onR_mono (onR_RA h) fun d v G1 H1 s1 r1 h1 =>
    ⟨δ, G1, re.step s1, onA_mono (onA_AA h1) fun ds vs G2 H2 s2 r2 h2 => h2 (v :: vs) G2 H2 (Stp.refl s2.sub) (.cons (r1.mono s2.g) r2)⟩⟩
def eTup (r : As) : E := fun δ => (r δ).bind fun xs => if xs.length ≤ sizeLine then .ok (.tup xs) else .stk
def eLst (r : As) : E := fun δ => (r δ).bind fun xs => if xs.length ≤ sizeLine then .ok (.lst xs) else .stk
theorem se_tup {k : Nat} (h : SA X C es r) : SE X C (.Tuple es k pos) (eTup r) := pe_weak (pe_tup h) fun σ H Q ⟨δ, G, re, h⟩ =>
  ⟨δ, G, re, onA_mono (onA_AR h) fun ds vs G1 H1 s1 r1 h1 => by
    have hl := r1.length
    by_cases z : ds.length ≤ sizeLine
    · rw [if_pos z] at h1
      refine ⟨by omega, fun p hp => h1 (.ref p) (upd G1 p (.tup vs)) _ (Stp.new s1.sub hp _) (.tup (SqT.of upd_same) (r1.mono (same_new (s1.sub.free hp) _)))⟩
    · rw [if_neg z] at h1
      exact h1.elim⟩
theorem se_lst (h : SA X C es r) : SE X C (.List es pos) (eLst r) := pe_weak (pe_lst h) fun σ H Q ⟨δ, G, re, h⟩ =>
  ⟨δ, G, re, onA_mono (onA_AR h) fun ds vs G1 H1 s1 r1 h1 => by
    have hl := r1.length
    by_cases z : ds.length ≤ sizeLine
    · rw [if_pos z] at h1
      refine ⟨by omega, fun p hp => h1 (.ref p) (upd G1 p (.lst vs)) _ (Stp.new s1.sub hp _) (.lst (SqL.of upd_same) (r1.mono (same_new (s1.sub.free hp) _)))⟩
    · rw [if_neg z] at h1
      exact h1.elim⟩
end
end Fs

/-! F3: operators, built-in functions, items and slices over data. -/
namespace Fs
open PySem L2

/-! ### data that == takes -/
mutual
def toPy : D → Option PyData
  | .non => some .none
  | .bl b => some (.bool b)
  | .int i => some (.int i)
  | .str x => some (.str x)
  | .fn _ => none
  | .dct _ _ => none
  | .tup xs => (toPyL xs).map .tuple
  | .lst xs => (toPyL xs).map .list
def toPyL : List D → Option (List PyData)
  | [] => some []
  | d :: ds => match toPy d, toPyL ds with
    | some p, some ps => some (p :: ps)
    | _, _ => none
end
mutual
theorem Rep.dp {K : PySem.W.Frag} {G H : Hp} (sub : Same G H) : ∀ {d : D} {v : V} {p : PyData}, Rep K G d v → toPy d = some p → Dp K H v p
  | _, _, _, .non, e => by simp only [toPy, Option.some.injEq] at e; subst e; exact .non
  | _, _, _, .bl b, e => by simp only [toPy, Option.some.injEq] at e; subst e; exact .bl b
  | _, _, _, .int i, e => by simp only [toPy, Option.some.injEq] at e; subst e; exact .int i
  | _, _, _, .str x, e => by simp only [toPy, Option.some.injEq] at e; subst e; exact .str x
  | _, _, _, .fn a, e => by simp only [toPy] at e; exact nomatch e
  | _, _, _, .dct h l r, e => by simp only [toPy] at e; exact nomatch e
  | .tup ds, _, _, .tup h r, e => by
    simp only [toPy] at e
    cases q : toPyL ds with
    | none => rw [q] at e; exact nomatch e
    | some ps =>
      rw [q] at e
      simp only [Option.map_some, Option.some.injEq] at e
      subst e
      exact .tup (sqt_mono sub h) (RepL.dp sub r q)
  | .lst ds, _, _, .lst h r, e => by
    simp only [toPy] at e
    cases q : toPyL ds with
    | none => rw [q] at e; exact nomatch e
    | some ps =>
      rw [q] at e
      simp only [Option.map_some, Option.some.injEq] at e
      subst e
      exact .lst (sub.seq h) (RepL.dp sub r q)
theorem RepL.dp {K : PySem.W.Frag} {G H : Hp} (sub : Same G H) : ∀ {ds : List D} {vs : List V} {ps : List PyData}, RepL K G ds vs → toPyL ds = some ps → DpAll K H vs ps
  | _, _, _, .nil, e => by simp only [toPyL, Option.some.injEq] at e; subst e; exact .nil
  | d :: ds, _, _, .cons h r, e => by
    simp only [toPyL] at e
    cases q : toPy d with
    | none => rw [q] at e; simp at e
    | some p =>
      cases q2 : toPyL ds with
      | none => rw [q, q2] at e; simp at e
      | some ps =>
        rw [q, q2] at e
        simp only [Option.some.injEq] at e
        subst e
        exact .cons (Rep.dp sub h q) (RepL.dp sub r q2)
end

/-! ### operators -/
def gAdd : B2
  | .int i, .int j => some (.int (i + j))
  | .str x, .str y => if x.length + y.length ≤ sizeLine then some (.str (x ++ y)) else none
  | .lst xs, .lst ys => if xs.length + ys.length ≤ sizeLine then some (.lst (xs ++ ys)) else none
  | .tup xs, .tup ys => if xs.length + ys.length ≤ sizeLine then some (.tup (xs ++ ys)) else none
  | _, _ => none
def gSub : B2
  | .int i, .int j => some (.int (i - j))
  | _, _ => none
instance {i j : Int} : Decidable (IntMulOk i j) := by unfold IntMulOk; infer_instance
def gMul : B2
  | .int i, .int j => if IntMulOk i j then some (.int (i * j)) else none
  | _, _ => none
def gDiv : B2
  | .int i, .int j => if 0 < j ∧ j.natAbs.log2 < 9000 then some (.int (i / j)) else none
  | _, _ => none
def gMod : B2
  | .int i, .int j => if 0 < j then some (.int (i % j)) else none
  | _, _ => none
def gPow : B2
  | .int i, .int j => if 0 ≤ j ∧ (Builtin.Int.intBits i : Int) * j ≤ 2 ^ 27 then some (.int (i ^ j.toNat)) else none
  | _, _ => none
def gShl : B2
  | .int i, .int j => if 0 ≤ j ∧ (Builtin.Int.intBits i : Int) + j ≤ 2 ^ 27 then some (.int (i * 2 ^ j.toNat)) else none
  | _, _ => none
def gShr : B2
  | .int i, .int j => if 0 ≤ j then some (.int (i / 2 ^ j.toNat)) else none
  | _, _ => none
def gLt : B2
  | .int i, .int j => some (.bl (decide (i < j)))
  | .str x, .str y => some (.bl (decide (x.cps.toList < y.cps.toList)))
  | _, _ => none
def gLe : B2
  | .int i, .int j => some (.bl (decide (i ≤ j)))
  | _, _ => none
def gGt : B2
  | .int i, .int j => some (.bl (decide (j < i)))
  | _, _ => none
def gGe : B2
  | .int i, .int j => some (.bl (decide (j ≤ i)))
  | _, _ => none
def eqPy (x y : D) : Option Bool := match toPy x, toPy y with
  | some p, some q => if SeqAt.shaped p && SeqAt.shaped q then some (PyData.eqv p q) else none
  | _, _ => none
def eqO : D → D → Option Bool
  | .int i, .int j => some (decide (i = j))
  | .str x, .str y => some (decide (x = y))
  | .bl x, .bl y => some (decide (x = y))
  | .non, .non => some true
  | .non, .str _ => some false
  | .str _, .non => some false
  | .int _, .str _ => some false
  | .str _, .int _ => some false
  | .non, .int _ => some false
  | .int _, .non => some false
  | x, y => eqPy x y
def gEq : B2 := fun x y => (eqO x y).map .bl
def gNe : B2 := fun x y => (eqO x y).map fun b => .bl !b
def gIsN : B2
  | x, .non => some (.bl (match x with | .non => true | _ => false))
  | _, _ => none
def gNotN : B2
  | x, .non => some (.bl (match x with | .non => false | _ => true))
  | _, _ => none

section
variable {X : Cx}
theorem op_none {f : Value → Value → Sem Value} {r : R2} : OpR X f r → OpR X f r := id
theorem o_add : OpR X (binaryOp .Add) (rD X.K gAdd) := by
  intro pins s σ H x y v u Q I rx ry h
  obtain ⟨G, dx, dy, d, e, sub, r1, r2, h⟩ := h
  cases r1 with
  | int i =>
    cases r2 <;> simp only [gAdd, Option.some.injEq, reduceCtorEq] at e
    subst e
    exact op_add pins s σ H _ _ v u Q I rx ry ⟨_, _, rfl, rfl, h _ G H (Stp.refl sub) (.int _)⟩
  | str z =>
    cases r2 <;> simp only [gAdd, reduceCtorEq] at e
    split at e
    · rename_i hz
      simp only [Option.some.injEq] at e
      subst e
      exact op_add_str pins s σ H _ _ v u Q I rx ry ⟨_, _, rfl, rfl, hz, h _ G H (Stp.refl sub) (.str _)⟩
    · exact nomatch e
  | non => cases r2 <;> simp only [gAdd, reduceCtorEq] at e
  | bl b => cases r2 <;> simp only [gAdd, reduceCtorEq] at e
  | fn a => cases r2 <;> simp only [gAdd, reduceCtorEq] at e
  | dct p l q => cases r2 <;> simp only [gAdd, reduceCtorEq] at e
  | tup p q =>
    cases r2 <;> simp only [gAdd, reduceCtorEq] at e
    rename_i p2 q2
    split at e
    · rename_i hz
      simp only [Option.some.injEq] at e
      subst e
      have l1 := q.length
      have l2 := q2.length
      refine op_catA pins s σ H _ _ v u Q I rx ry ⟨_, _, _, _, rfl, rfl, sqt_mono sub p, sqt_mono sub p2, by omega, fun z => ?_, fun z1 z2 => ?_, fun z1 z2 c hc => ?_⟩
      · subst z
        cases q
        exact h _ G H (Stp.refl sub) (.tup p2 q2)
      · subst z2
        cases q2
        rw [List.append_nil] at h
        exact h _ G H (Stp.refl sub) (.tup p q)
      · exact h _ _ _ (Stp.new sub hc _) (.tup (SqT.of upd_same) (RepL.append (q.mono (same_new (sub.free hc) _)) (q2.mono (same_new (sub.free hc) _))))
    · exact nomatch e
  | lst p q =>
    cases r2 <;> simp only [gAdd, reduceCtorEq] at e
    rename_i a1 vs1 ds1 a2 vs2 ds2 p2 q2
    split at e
    · rename_i hz
      simp only [Option.some.injEq] at e
      subst e
      cases rx
      cases ry
      have l1 := q.length
      have l2 := q2.length
      obtain ⟨is1, t1, ⟨⟨c1, d1, b1, s1⟩, n1, ho1, hc1, hd1, hs1⟩, z1⟩ := I.list (sub.seq p)
      obtain ⟨is2, t2, ⟨⟨c2, d2, b2, s2⟩, n2, ho2, hc2, hd2, hs2⟩, z2⟩ := I.list (sub.seq p2)
      simp only at hc1 hd1 hs1 hc2 hd2 hs2
      subst hc1 hd1 hs1 hc2 hd2 hs2
      have m1 := t1.length
      have m2 := t2.length
      refine concat_meets ⟨_, ho1, rfl⟩ ⟨_, ho2, rfl⟩ noFill_list_add seq_list_add PySem.F.slot_list_add PySem.F.entry_list_add (PySem.F.args_list_add_2 _ _) (PyProof.Rows.list_addW _ _ is1.toArray is2.toArray n1 n2 _ _ s1 s2 (by simp only [List.size_toArray]; omega)) ⟨ho1, ho2, ?_⟩
      rw [show is1.toArray ++ is2.toArray = (is1 ++ is2).toArray by simp]
      have hf := I.fresh
      have sg := same_new (sub.free hf) (.lst (vs1 ++ vs2))
      exact ⟨.ref _, _, I.lnew (t' := s.toks) (t1.append t2) (by simp only [List.length_append]; omega), rfl, h _ _ _ (Stp.new sub hf _) (.lst (SqL.of upd_same) (RepL.append (q.mono sg) (q2.mono sg)))⟩
    · exact nomatch e
theorem o_sub : OpR X (binaryOp .Sub) (rD X.K gSub) := by
  intro pins s σ H x y v u Q I rx ry h
  obtain ⟨G, dx, dy, d, e, sub, r1, r2, h⟩ := h
  cases r1 <;> cases r2 <;> simp only [gSub, Option.some.injEq, reduceCtorEq] at e
  subst e
  exact op_sub pins s σ H _ _ v u Q I rx ry ⟨_, _, rfl, rfl, h _ G H (Stp.refl sub) (.int _)⟩
theorem o_mul : OpR X (binaryOp .Mult) (rD X.K gMul) := by
  intro pins s σ H x y v u Q I rx ry h
  obtain ⟨G, dx, dy, d, e, sub, r1, r2, h⟩ := h
  cases r1 <;> cases r2 <;> simp only [gMul, reduceCtorEq] at e
  split at e
  · rename_i hc
    simp only [Option.some.injEq] at e
    subst e
    obtain ⟨t, rfl⟩ := rx
    obtain ⟨t', rfl⟩ := ry
    exact PyProof.Rows.mul_int ⟨.int _, H, I.tok _, ⟨_, rfl⟩, h _ G H (Stp.refl sub) (.int _)⟩ hc
  · exact nomatch e
theorem o_div : OpR X (binaryOp .FloorDiv) (rD X.K gDiv) := by
  intro pins s σ H x y v u Q I rx ry h
  obtain ⟨G, dx, dy, d, e, sub, r1, r2, h⟩ := h
  cases r1 <;> cases r2 <;> simp only [gDiv, reduceCtorEq] at e
  split at e
  · rename_i hc
    simp only [Option.some.injEq] at e
    subst e
    exact op_fdivW pins s σ H _ _ v u Q I rx ry ⟨_, _, rfl, rfl, hc, h _ G H (Stp.refl sub) (.int _)⟩
  · exact nomatch e
theorem o_mod : OpR X (binaryOp .Mod) (rD X.K gMod) := by
  intro pins s σ H x y v u Q I rx ry h
  obtain ⟨G, dx, dy, d, e, sub, r1, r2, h⟩ := h
  cases r1 <;> cases r2 <;> simp only [gMod, reduceCtorEq] at e
  split at e
  · rename_i hc
    simp only [Option.some.injEq] at e
    subst e
    exact op_mod pins s σ H _ _ v u Q I rx ry ⟨_, _, rfl, rfl, hc, h _ G H (Stp.refl sub) (.int _)⟩
  · exact nomatch e
theorem op_powW : OpR X (binaryOp .Pow) (rI (fun i j => 0 ≤ j ∧ (Builtin.Int.intBits i : Int) * j ≤ 2 ^ 27) fun i j => .int (i ^ j.toNat)) := opI fun _ _ _ _ _ _ _ hc q => PyProof.Rows.pow_int hc.1 hc.2 q
theorem o_pow : OpR X (binaryOp .Pow) (rD X.K gPow) := by
  intro pins s σ H x y v u Q I rx ry h
  obtain ⟨G, dx, dy, d, e, sub, r1, r2, h⟩ := h
  cases r1 <;> cases r2 <;> simp only [gPow, reduceCtorEq] at e
  split at e
  · rename_i hc
    simp only [Option.some.injEq] at e
    subst e
    exact op_powW pins s σ H _ _ v u Q I rx ry ⟨_, _, rfl, rfl, hc, h _ G H (Stp.refl sub) (.int _)⟩
  · exact nomatch e
theorem o_shl : OpR X (binaryOp .LShift) (rD X.K gShl) := by
  intro pins s σ H x y v u Q I rx ry h
  obtain ⟨G, dx, dy, d, e, sub, r1, r2, h⟩ := h
  cases r1 <;> cases r2 <;> simp only [gShl, reduceCtorEq] at e
  split at e
  · rename_i hc
    simp only [Option.some.injEq] at e
    subst e
    exact op_shlW pins s σ H _ _ v u Q I rx ry ⟨_, _, rfl, rfl, hc, h _ G H (Stp.refl sub) (.int _)⟩
  · exact nomatch e
theorem o_shr : OpR X (binaryOp .RShift) (rD X.K gShr) := by
  intro pins s σ H x y v u Q I rx ry h
  obtain ⟨G, dx, dy, d, e, sub, r1, r2, h⟩ := h
  cases r1 <;> cases r2 <;> simp only [gShr, reduceCtorEq] at e
  split at e
  · rename_i hc
    simp only [Option.some.injEq] at e
    subst e
    exact op_shr pins s σ H _ _ v u Q I rx ry ⟨_, _, rfl, rfl, hc, h _ G H (Stp.refl sub) (.int _)⟩
  · exact nomatch e
theorem o_lt : OpR X (compareOp .Lt) (rD X.K gLt) := by
  intro pins s σ H x y v u Q I rx ry h
  obtain ⟨G, dx, dy, d, e, sub, r1, r2, h⟩ := h
  cases r1 <;> cases r2 <;> simp only [gLt, Option.some.injEq, reduceCtorEq] at e
  · subst e
    exact op_lt pins s σ H _ _ v u Q I rx ry ⟨_, _, rfl, rfl, h _ G H (Stp.refl sub) (.bl _)⟩
  · subst e
    exact op_lt_str pins s σ H _ _ v u Q I rx ry ⟨_, _, rfl, rfl, h _ G H (Stp.refl sub) (.bl _)⟩
theorem o_le : OpR X (compareOp .LtE) (rD X.K gLe) := by
  intro pins s σ H x y v u Q I rx ry h
  obtain ⟨G, dx, dy, d, e, sub, r1, r2, h⟩ := h
  cases r1 <;> cases r2 <;> simp only [gLe, Option.some.injEq, reduceCtorEq] at e
  subst e
  exact op_le pins s σ H _ _ v u Q I rx ry ⟨_, _, rfl, rfl, h _ G H (Stp.refl sub) (.bl _)⟩
theorem o_gt : OpR X (compareOp .Gt) (rD X.K gGt) := by
  intro pins s σ H x y v u Q I rx ry h
  obtain ⟨G, dx, dy, d, e, sub, r1, r2, h⟩ := h
  cases r1 <;> cases r2 <;> simp only [gGt, Option.some.injEq, reduceCtorEq] at e
  subst e
  exact op_gt pins s σ H _ _ v u Q I rx ry ⟨_, _, rfl, rfl, h _ G H (Stp.refl sub) (.bl _)⟩
theorem o_ge : OpR X (compareOp .GtE) (rD X.K gGe) := by
  intro pins s σ H x y v u Q I rx ry h
  obtain ⟨G, dx, dy, d, e, sub, r1, r2, h⟩ := h
  cases r1 <;> cases r2 <;> simp only [gGe, Option.some.injEq, reduceCtorEq] at e
  subst e
  exact op_ge pins s σ H _ _ v u Q I rx ry ⟨_, _, rfl, rfl, h _ G H (Stp.refl sub) (.bl _)⟩
/-- both sides of == and != -/
theorem eq_core {K : PySem.W.Frag} {G H : Hp} (sub : Same G H) {dx dy : D} {x y : V} {b : Bool} (r1 : Rep K G dx x) (r2 : Rep K G dy y) (e : eqO dx dy = some b) :
    (scal x y = true ∧ decide (x = y) = b) ∨ ∃ p q, Dp K H x p ∧ Dp K H y q ∧ SeqAt.shaped p = true ∧ SeqAt.shaped q = true ∧ PyData.eqv p q = b := by
  have gen : eqPy dx dy = some b → ∃ p q, Dp K H x p ∧ Dp K H y q ∧ SeqAt.shaped p = true ∧ SeqAt.shaped q = true ∧ PyData.eqv p q = b := fun e => by
    unfold eqPy at e
    cases q1 : toPy dx with
    | none => rw [q1] at e; exact nomatch e
    | some p =>
      cases q2 : toPy dy with
      | none => rw [q1, q2] at e; exact nomatch e
      | some q =>
        rw [q1, q2] at e
        simp only at e
        split at e
        · rename_i hs
          rw [Bool.and_eq_true] at hs
          exact ⟨p, q, r1.dp sub q1, r2.dp sub q2, hs.1, hs.2, Option.some.inj e⟩
        · exact nomatch e
  cases r1 <;> cases r2 <;> first
    | (simp only [eqO] at e; exact .inr (gen e))
    | (refine .inl ⟨rfl, ?_⟩; simp only [eqO, Option.some.injEq] at e; rw [← e]; simp)
theorem o_eq (hu : X.A.units + 64 < cLine) : OpR X (compareOp .Eq) (rD X.K gEq) := by
  intro pins s σ H x y v u Q I rx ry h
  obtain ⟨G, dx, dy, d, e, sub, r1, r2, h⟩ := h
  unfold gEq at e
  cases q : eqO dx dy with
  | none => rw [q] at e; exact nomatch e
  | some b =>
    rw [q] at e
    have e' : d = .bl b := (Option.some.inj e).symm
    subst e'
    rcases eq_core sub r1 r2 q with ⟨h1, h2⟩ | ⟨p, q, d1, d2, s1, s2, eb⟩
    · exact op_eq pins s σ H x y v u Q I rx ry ⟨h1, by rw [h2]; exact h _ G H (Stp.refl sub) (.bl b)⟩
    · exact op_eqD hu pins s σ H x y v u Q I rx ry ⟨p, q, d1, d2, s1, s2, by rw [eb]; exact h _ G H (Stp.refl sub) (.bl b)⟩
theorem o_ne (hu : X.A.units + 64 < cLine) : OpR X (compareOp .NotEq) (rD X.K gNe) := by
  intro pins s σ H x y v u Q I rx ry h
  obtain ⟨G, dx, dy, d, e, sub, r1, r2, h⟩ := h
  unfold gNe at e
  cases q : eqO dx dy with
  | none => rw [q] at e; exact nomatch e
  | some b =>
    rw [q] at e
    have e' : d = .bl !b := (Option.some.inj e).symm
    subst e'
    rcases eq_core sub r1 r2 q with ⟨h1, h2⟩ | ⟨p, q, d1, d2, s1, s2, eb⟩
    · exact op_ne pins s σ H x y v u Q I rx ry ⟨h1, by rw [h2]; exact h _ G H (Stp.refl sub) (.bl _)⟩
    · exact op_neD hu pins s σ H x y v u Q I rx ry ⟨p, q, d1, d2, s1, s2, by rw [eb]; exact h _ G H (Stp.refl sub) (.bl _)⟩
theorem o_isN : OpR X (compareOp .Is) (rD X.K gIsN) := by
  intro pins s σ H x y v u Q I rx ry h
  obtain ⟨G, dx, dy, d, e, sub, r1, r2, h⟩ := h
  cases r2 <;> simp only [gIsN, Option.some.injEq, reduceCtorEq] at e
  subst e
  cases r1 <;> exact op_isN pins s σ H _ _ v u Q I rx ry ⟨rfl, h _ G H (Stp.refl sub) (.bl _)⟩
theorem o_notN : OpR X (compareOp .IsNot) (rD X.K gNotN) := by
  intro pins s σ H x y v u Q I rx ry h
  obtain ⟨G, dx, dy, d, e, sub, r1, r2, h⟩ := h
  cases r2 <;> simp only [gNotN, Option.some.injEq, reduceCtorEq] at e
  subst e
  cases r1 <;> exact op_notN pins s σ H _ _ v u Q I rx ry ⟨rfl, h _ G H (Stp.refl sub) (.bl _)⟩
end

/-! ### one operand -/
abbrev B1 := D → Option D
def rD1 (K : PySem.W.Frag) (g : B1) : V → Hp → VK → Prop := fun x H Q => ∃ G dx d, g dx = some d ∧ Same G H ∧ Rep K G dx x ∧ ∀ v G' H', Stp G H G' H' → Rep K G' d v → Q v H'
def eUn (g : B1) (a : E) : E := fun δ => (a δ).bind fun x => R.ofO (g x)
def gNeg : B1
  | .int i => some (.int (-i))
  | _ => none
section
variable {X : Cx} {C : Cc} {pos : Pos} {a : Expr} {fa : E} {g : B1}
theorem lift_un {K : PySem.W.Frag} {σ : L2.St} {H : Hp} {Q : VK} (h : liftE K C (eUn g fa) σ H Q) : tUn (rD1 K g) (liftE K C fa) σ H Q := by
  obtain ⟨δ, G, re, h⟩ := h
  refine ⟨δ, G, re, onR_mono (onR_RR h) fun d v G1 H1 s1 r1 h1 => ?_⟩
  cases e : g d with
  | none => rw [e] at h1; exact h1.elim
  | some z =>
    rw [e] at h1
    exact ⟨G1, d, z, e, s1.sub, r1, h1⟩
theorem se_un {op : UnaryOp} (ho : UnR X (unaryOp op) (rD1 X.K g)) (ha : SE X C a fa) : SE X C (.UnaryOp op a pos) (eUn g fa) := pe_weak (pe_un ho ha) fun σ H Q h => lift_un h
theorem o_neg : UnR X (unaryOp .USub) (rD1 X.K gNeg) := by
  intro pins s σ H x v Q I rx h
  obtain ⟨G, dx, d, e, sub, r1, h⟩ := h
  cases r1 <;> simp only [gNeg, Option.some.injEq, reduceCtorEq] at e
  subst e
  exact un_neg pins s σ H _ v Q I rx ⟨_, rfl, h _ G H (Stp.refl sub) (.int _)⟩
end

/-! ### built-in functions of values -/
abbrev BA := List D → Option D
def rDA (K : PySem.W.Frag) (g : BA) : List V → Hp → VK → Prop := fun xs H Q => ∃ G ds d, g ds = some d ∧ Same G H ∧ RepL K G ds xs ∧ ∀ v G' H', Stp G H G' H' → Rep K G' d v → Q v H'
def eFn (g : BA) (a : As) : E := fun δ => (a δ).bind fun xs => R.ofO (g xs)
section
variable {X : Cx} {C : Cc} {pos p : Pos} {x : Str} {id T : String} {e : Expr} {es : List Expr} {fa : As} {g : BA}
theorem lift_fn {K : PySem.W.Frag} {σ : L2.St} {H : Hp} {Q : VK} (h : liftE K C (eFn g fa) σ H Q) : tCB (rDA K g) (liftA K C fa) σ H Q := by
  obtain ⟨δ, G, re, h⟩ := h
  refine ⟨δ, G, re, onA_mono (onA_AR h) fun d v G1 H1 s1 r1 h1 => ?_⟩
  cases e : g d with
  | none => rw [e] at h1; exact h1.elim
  | some z =>
    rw [e] at h1
    exact ⟨G1, d, z, e, s1.sub, r1, h1⟩
theorem se_callB (hc : CallR X (.builtin id) (rDA X.K g)) (hg : Gl X x) (hm : X.mg x = none) (hv : bootBuiltins x = some (.builtin id)) (ha : SA X C (e :: es) fa) (hn : x ≠ "__name__" := by decide) (hdb : (x == ("__debug__" : Str)) = false := by decide)
    (he : starEach (e :: es) X.env = (false, eval e X.env) :: starEach es X.env := by rfl) (hpl : (backTo pos (starEach es X.env)).any (·.1) = false := by rfl) : SE X C (.Call (.Name x p) (e :: es) [] pos) (eFn g fa) :=
  pe_weak (pe_callB hc hg hm hv ha hn hdb he hpl) fun σ H Q h => lift_fn h
theorem se_callT (hc : CallR X (.type T) (rDA X.K g)) (hg : Gl X x) (hm : X.mg x = none) (hv : bootBuiltins x = some (.type T)) (ha : SA X C (e :: es) fa) (hn : x ≠ "__name__" := by decide) (hdb : (x == ("__debug__" : Str)) = false := by decide)
    (he : starEach (e :: es) X.env = (false, eval e X.env) :: starEach es X.env := by rfl) (hpl : (backTo pos (starEach es X.env)).any (·.1) = false := by rfl) : SE X C (.Call (.Name x p) (e :: es) [] pos) (eFn g fa) :=
  pe_weak (pe_callTy hc hg hm hv ha hn hdb he hpl) fun σ H Q h => lift_fn h

def gLen : BA
  | [.lst xs] => some (.int xs.length)
  | [.tup xs] => some (.int xs.length)
  | [.str x] => if x.length ≤ sizeLine then some (.int x.length) else none
  | _ => none
def gMin2 : BA
  | [.int i, .int j] => some (.int (if j < i then j else i))
  | _ => none
def gMax2 : BA
  | [.int i, .int j] => some (.int (if j > i then j else i))
  | _ => none
def gAbs : BA
  | [.int i] => some (.int (if i < 0 then -i else i))
  | _ => none
def gInt : BA
  | [.int i] => some (.int i)
  | [.bl k] => some (.int (if k then 1 else 0))
  | [.str a] => match PySem.intText? a with
    | some n => if a.length ≤ 640 then some (.int n) else none
    | none => none
  | _ => none
def gStr : BA
  | [.int i] => if i.natAbs.log2 < 1920 then some (.str (toString i)) else none
  | _ => none
def gList : BA
  | [.lst xs] => some (.lst xs)
  | [.tup xs] => some (.lst xs)
  | _ => none
def gTuple : BA
  | [.lst xs] => some (.tup xs)
  | [.tup xs] => some (.tup xs)
  | _ => none
def gDivmod : BA
  | [.int i, .int j] => if 0 < j ∧ Builtin.divisionGoesByPylong i j = false then some (.tup [.int (i / j), .int (i % j)]) else none
  | _ => none
def intsOf : List D → Option (List Int)
  | [] => some []
  | .int i :: r => (intsOf r).map (i :: ·)
  | _ => none
def blsOf : List D → Option (List Bool)
  | [] => some []
  | .bl i :: r => (blsOf r).map (i :: ·)
  | _ => none
def strsOf : List D → Option (List Str)
  | [] => some []
  | .str i :: r => (strsOf r).map (i :: ·)
  | _ => none
theorem intsOf_eq : ∀ {ds : List D} {ns : List Int}, intsOf ds = some ns → ds = ns.map D.int
  | [], _, e => by simp only [intsOf, Option.some.injEq] at e; subst e; rfl
  | .int i :: r, ns, e => by
    simp only [intsOf] at e
    cases q : intsOf r with
    | none => rw [q] at e; exact nomatch e
    | some ms => rw [q] at e; simp only [Option.map_some, Option.some.injEq] at e; subst e; rw [intsOf_eq q]; rfl
  | .non :: _, _, e => nomatch e
  | .bl _ :: _, _, e => nomatch e
  | .str _ :: _, _, e => nomatch e
  | .tup _ :: _, _, e => nomatch e
  | .lst _ :: _, _, e => nomatch e
  | .fn _ :: _, _, e => nomatch e
  | .dct _ _ :: _, _, e => nomatch e
theorem blsOf_eq : ∀ {ds : List D} {ns : List Bool}, blsOf ds = some ns → ds = ns.map D.bl
  | [], _, e => by simp only [blsOf, Option.some.injEq] at e; subst e; rfl
  | .bl i :: r, ns, e => by
    simp only [blsOf] at e
    cases q : blsOf r with
    | none => rw [q] at e; exact nomatch e
    | some ms => rw [q] at e; simp only [Option.map_some, Option.some.injEq] at e; subst e; rw [blsOf_eq q]; rfl
  | .non :: _, _, e => nomatch e
  | .int _ :: _, _, e => nomatch e
  | .str _ :: _, _, e => nomatch e
  | .tup _ :: _, _, e => nomatch e
  | .lst _ :: _, _, e => nomatch e
  | .fn _ :: _, _, e => nomatch e
  | .dct _ _ :: _, _, e => nomatch e
theorem strsOf_eq : ∀ {ds : List D} {ns : List Str}, strsOf ds = some ns → ds = ns.map D.str
  | [], _, e => by simp only [strsOf, Option.some.injEq] at e; subst e; rfl
  | .str i :: r, ns, e => by
    simp only [strsOf] at e
    cases q : strsOf r with
    | none => rw [q] at e; exact nomatch e
    | some ms => rw [q] at e; simp only [Option.map_some, Option.some.injEq] at e; subst e; rw [strsOf_eq q]; rfl
  | .non :: _, _, e => nomatch e
  | .int _ :: _, _, e => nomatch e
  | .bl _ :: _, _, e => nomatch e
  | .tup _ :: _, _, e => nomatch e
  | .lst _ :: _, _, e => nomatch e
  | .fn _ :: _, _, e => nomatch e
  | .dct _ _ :: _, _, e => nomatch e
theorem intsOf_map : ∀ ns : List Int, intsOf (ns.map D.int) = some ns
  | [] => rfl
  | n :: r => by simp only [List.map_cons, intsOf, intsOf_map r, Option.map_some]
theorem blsOf_map : ∀ ns : List Bool, blsOf (ns.map D.bl) = some ns
  | [] => rfl
  | n :: r => by simp only [List.map_cons, blsOf, blsOf_map r, Option.map_some]
theorem strsOf_map : ∀ ns : List Str, strsOf (ns.map D.str) = some ns
  | [] => rfl
  | n :: r => by simp only [List.map_cons, strsOf, strsOf_map r, Option.map_some]
def gSum : BA
  | [.lst xs] => (intsOf xs).map fun ns => .int ns.sum
  | _ => none
def gAll : BA
  | [.lst xs] => (blsOf xs).map fun ns => .bl (ns.all fun b => b)
  | _ => none
def gAny : BA
  | [.lst xs] => (blsOf xs).map fun ns => .bl (ns.any fun b => b)
  | _ => none
def gMin : BA
  | [.lst xs] => (intsOf xs).bind fun ns => ns.min?.map .int
  | _ => none
def gMax : BA
  | [.lst xs] => (intsOf xs).bind fun ns => ns.max?.map .int
  | _ => none
theorem b_len : CallR X (.builtin "len") (rDA X.K gLen) := by
  intro pins s σ H xs us Q I r h
  obtain ⟨G, ds, d, e, sub, rl, h⟩ := h
  unfold gLen at e
  split at e
  · cases rl with
    | cons r1 r2 =>
      cases r2
      cases r1 with
      | lst p q =>
        simp only [Option.some.injEq] at e
        subst e
        refine call_len_seq pins s σ H _ us Q I r ⟨_, _, rfl, .inl (sub.seq p), ?_⟩
        rw [← q.length]
        exact h _ G H (Stp.refl sub) (.int _)
  · cases rl with
    | cons r1 r2 =>
      cases r2
      cases r1 with
      | tup p q =>
        simp only [Option.some.injEq] at e
        subst e
        refine call_len_seq pins s σ H _ us Q I r ⟨_, _, rfl, .inr (sqt_mono sub p), ?_⟩
        rw [← q.length]
        exact h _ G H (Stp.refl sub) (.int _)
  · cases rl with
    | cons r1 r2 =>
      cases r2
      cases r1
      split at e
      · rename_i hz
        simp only [Option.some.injEq] at e
        subst e
        exact call_len_str pins s σ H _ us Q I r ⟨_, rfl, hz, h _ G H (Stp.refl sub) (.int _)⟩
      · exact nomatch e
  · exact nomatch e
theorem b_min2 (hc : X.calm = true) : CallR X (.builtin "min") (rDA X.K gMin2) := by
  intro pins s σ H xs us Q I r h
  obtain ⟨G, ds, d, e, sub, rl, h⟩ := h
  unfold gMin2 at e
  split at e
  · cases rl with
    | cons r1 r2 =>
      cases r2 with
      | cons r2 r3 =>
        cases r1; cases r2; cases r3
        simp only [Option.some.injEq] at e
        subst e
        exact call_min2 hc pins s σ H _ us Q I r ⟨_, _, rfl, h _ G H (Stp.refl sub) (.int _)⟩
  · exact nomatch e
theorem b_max2 (hc : X.calm = true) : CallR X (.builtin "max") (rDA X.K gMax2) := by
  intro pins s σ H xs us Q I r h
  obtain ⟨G, ds, d, e, sub, rl, h⟩ := h
  unfold gMax2 at e
  split at e
  · cases rl with
    | cons r1 r2 =>
      cases r2 with
      | cons r2 r3 =>
        cases r1; cases r2; cases r3
        simp only [Option.some.injEq] at e
        subst e
        exact call_max2 hc pins s σ H _ us Q I r ⟨_, _, rfl, h _ G H (Stp.refl sub) (.int _)⟩
  · exact nomatch e
theorem b_abs : CallR X (.builtin "abs") (rDA X.K gAbs) := by
  intro pins s σ H xs us Q I r h
  obtain ⟨G, ds, d, e, sub, rl, h⟩ := h
  unfold gAbs at e
  split at e
  · cases rl with
    | cons r1 r2 =>
      cases r1; cases r2
      simp only [Option.some.injEq] at e
      subst e
      exact call_abs pins s σ H _ us Q I r ⟨_, rfl, h _ G H (Stp.refl sub) (.int _)⟩
  · exact nomatch e
theorem b_int : CallR X (.type "int") (rDA X.K gInt) := by
  intro pins s σ H xs us Q I r h
  obtain ⟨G, ds, d, e, sub, rl, h⟩ := h
  unfold gInt at e
  split at e
  · cases rl with
    | cons r1 r2 =>
      cases r1; cases r2
      simp only [Option.some.injEq] at e
      subst e
      exact call_int1 pins s σ H _ us Q I r (.inl ⟨_, rfl, h _ G H (Stp.refl sub) (.int _)⟩)
  · cases rl with
    | cons r1 r2 =>
      cases r1; cases r2
      simp only [Option.some.injEq] at e
      subst e
      exact call_int1 pins s σ H _ us Q I r (.inr ⟨_, rfl, h _ G H (Stp.refl sub) (.int _)⟩)
  · cases rl with
    | cons r1 r2 =>
      cases r1; cases r2
      split at e
      · rename_i n hn
        split at e
        · rename_i hz
          simp only [Option.some.injEq] at e
          subst e
          exact call_int_str pins s σ H _ us Q I r ⟨_, n, rfl, hn, hz, h _ G H (Stp.refl sub) (.int _)⟩
        · exact nomatch e
      · exact nomatch e
  · exact nomatch e
theorem b_str : CallR X (.type "str") (rDA X.K gStr) := by
  intro pins s σ H xs us Q I r h
  obtain ⟨G, ds, d, e, sub, rl, h⟩ := h
  unfold gStr at e
  split at e
  · cases rl with
    | cons r1 r2 =>
      cases r1; cases r2
      split at e
      · rename_i hz
        simp only [Option.some.injEq] at e
        subst e
        exact call_str_int pins s σ H _ us Q I r ⟨_, rfl, hz, h _ G H (Stp.refl sub) (.str _)⟩
      · exact nomatch e
  · exact nomatch e
theorem b_list : CallR X (.type "list") (rDA X.K gList) := by
  intro pins s σ H xs us Q I r h
  obtain ⟨G, ds, d, e, sub, rl, h⟩ := h
  unfold gList at e
  split at e
  · cases rl with
    | cons r1 r2 =>
      cases r2
      cases r1 with
      | lst p q =>
        simp only [Option.some.injEq] at e
        subst e
        exact call_list_of pins s σ H _ us Q I r ⟨_, _, rfl, .inl (sub.seq p), fun c hc => h _ _ _ (Stp.new sub hc _) (.lst (SqL.of upd_same) (q.mono (same_new (sub.free hc) _)))⟩
  · cases rl with
    | cons r1 r2 =>
      cases r2
      cases r1 with
      | tup p q =>
        simp only [Option.some.injEq] at e
        subst e
        exact call_list_of pins s σ H _ us Q I r ⟨_, _, rfl, .inr (sqt_mono sub p), fun c hc => h _ _ _ (Stp.new sub hc _) (.lst (SqL.of upd_same) (q.mono (same_new (sub.free hc) _)))⟩
  · exact nomatch e
theorem b_tuple : CallR X (.type "tuple") (rDA X.K gTuple) := by
  intro pins s σ H xs us Q I r h
  obtain ⟨G, ds, d, e, sub, rl, h⟩ := h
  unfold gTuple at e
  split at e
  · cases rl with
    | cons r1 r2 =>
      cases r2
      cases r1 with
      | lst p q =>
        simp only [Option.some.injEq] at e
        subst e
        exact call_tuple_of pins s σ H _ us Q I r ⟨_, _, rfl, .inl ⟨sub.seq p, fun c hc => h _ _ _ (Stp.new sub hc _) (.tup (SqT.of upd_same) (q.mono (same_new (sub.free hc) _)))⟩⟩
  · cases rl with
    | cons r1 r2 =>
      cases r2
      cases r1 with
      | tup p q =>
        simp only [Option.some.injEq] at e
        subst e
        exact call_tuple_of pins s σ H _ us Q I r ⟨_, _, rfl, .inr ⟨sqt_mono sub p, h _ G H (Stp.refl sub) (.tup p q)⟩⟩
  · exact nomatch e
theorem b_divmod : CallR X (.builtin "divmod") (rDA X.K gDivmod) := by
  intro pins s σ H xs us Q I r h
  obtain ⟨G, ds, d, e, sub, rl, h⟩ := h
  unfold gDivmod at e
  split at e
  · cases rl with
    | cons r1 r2 =>
      cases r2 with
      | cons r2 r3 =>
        cases r1; cases r2; cases r3
        split at e
        · rename_i hz
          simp only [Option.some.injEq] at e
          subst e
          exact call_divmodW pins s σ H _ us Q I r ⟨_, _, rfl, hz, fun c hc => h _ _ _ (Stp.new sub hc _) (.tup (SqT.of upd_same) (.cons (.int _) (.cons (.int _) .nil)))⟩
        · exact nomatch e
  · exact nomatch e
theorem b_sum (hc : X.calm = true) : CallR X (.builtin "sum") (rDA X.K gSum) := by
  intro pins s σ H xs us Q I r h
  obtain ⟨G, ds, d, e, sub, rl, h⟩ := h
  unfold gSum at e
  split at e
  · rename_i ys
    cases q1 : intsOf ys with
    | none => rw [q1] at e; exact nomatch e
    | some ns =>
      rw [q1] at e
      simp only [Option.map_some, Option.some.injEq] at e
      subst e
      have e2 := intsOf_eq q1
      subst e2
      cases rl with
      | cons r1 r2 =>
        cases r2
        cases r1 with
        | lst p q =>
          have e3 := RepL.of_ints q
          subst e3
          exact cr_sum hc pins s σ H _ us Q I r ⟨_, ns, rfl, sub.seq p, h _ G H (Stp.refl sub) (.int _)⟩
  · exact nomatch e
theorem b_all (hc : X.calm = true) : CallR X (.builtin "all") (rDA X.K gAll) := by
  intro pins s σ H xs us Q I r h
  obtain ⟨G, ds, d, e, sub, rl, h⟩ := h
  unfold gAll at e
  split at e
  · rename_i ys
    cases q1 : blsOf ys with
    | none => rw [q1] at e; exact nomatch e
    | some ns =>
      rw [q1] at e
      simp only [Option.map_some, Option.some.injEq] at e
      subst e
      have e2 := blsOf_eq q1
      subst e2
      cases rl with
      | cons r1 r2 =>
        cases r2
        cases r1 with
        | lst p q =>
          have e3 := RepL.of_bls q
          subst e3
          exact cr_all hc pins s σ H _ us Q I r ⟨_, ns, rfl, sub.seq p, h _ G H (Stp.refl sub) (.bl _)⟩
  · exact nomatch e
theorem b_any (hc : X.calm = true) : CallR X (.builtin "any") (rDA X.K gAny) := by
  intro pins s σ H xs us Q I r h
  obtain ⟨G, ds, d, e, sub, rl, h⟩ := h
  unfold gAny at e
  split at e
  · rename_i ys
    cases q1 : blsOf ys with
    | none => rw [q1] at e; exact nomatch e
    | some ns =>
      rw [q1] at e
      simp only [Option.map_some, Option.some.injEq] at e
      subst e
      have e2 := blsOf_eq q1
      subst e2
      cases rl with
      | cons r1 r2 =>
        cases r2
        cases r1 with
        | lst p q =>
          have e3 := RepL.of_bls q
          subst e3
          exact cr_any hc pins s σ H _ us Q I r ⟨_, ns, rfl, sub.seq p, h _ G H (Stp.refl sub) (.bl _)⟩
  · exact nomatch e
end
end Fs

/-! F4: items, slices, isinstance, methods of texts. -/
namespace Fs
open PySem L2

/-! ### items -/
theorem RepL.atI {K : PySem.W.Frag} {G : Hp} {ds : List D} {vs : List V} {i : Int} {d : D} (r : RepL K G ds vs) (e : L2.atI ds i = some d) : ∃ v, L2.atI vs i = some v ∧ Rep K G d v := by
  unfold L2.atI at e ⊢
  rw [r.length] at e
  cases q : ixN vs.length i with
  | none => rw [q] at e; exact nomatch e
  | some j => rw [q] at e; exact r.get e
def gIx : B2
  | .lst xs, .int i => atI xs i
  | .tup xs, .int i => atI xs i
  | .str z, .int i => if z.length ≤ sizeLine then (atI z.cps.toList i).map fun c => .str ⟨#[c]⟩ else none
  | _, _ => none
section
variable {X : Cx} {C : Cc} {pos p2 : Pos} {a b : Expr} {fa fb : E}
theorem x_ix : IxR X (rD X.K gIx) := by
  intro value slice pins s σ H x y v u Q I rx ry h hs
  obtain ⟨G, dx, dy, d, e, sub, r1, r2, h⟩ := h
  cases r1 with
  | lst p q =>
    cases r2 <;> simp only [gIx, reduceCtorEq] at e
    obtain ⟨v', e1, r3⟩ := q.atI e
    exact ix_list value slice pins s σ H _ _ v u Q I rx ry ⟨_, _, _, _, rfl, rfl, sub.seq p, e1, h _ G H (Stp.refl sub) r3⟩ hs
  | tup p q =>
    cases r2 <;> simp only [gIx, reduceCtorEq] at e
    obtain ⟨v', e1, r3⟩ := q.atI e
    exact ix_tup value slice pins s σ H _ _ v u Q I rx ry ⟨_, _, _, _, rfl, rfl, sqt_mono sub p, e1, h _ G H (Stp.refl sub) r3⟩ hs
  | str z =>
    cases r2 <;> simp only [gIx, reduceCtorEq] at e
    split at e
    · rename_i hz
      cases q : atI z.cps.toList _ with
      | none => rw [q] at e; exact nomatch e
      | some c =>
        rw [q] at e
        simp only [Option.map_some, Option.some.injEq] at e
        subst e
        exact ix_str value slice pins s σ H _ _ v u Q I rx ry ⟨_, _, c, rfl, rfl, hz, q, h _ G H (Stp.refl sub) (.str _)⟩ hs
    · exact nomatch e
  | non => cases r2 <;> simp only [gIx, reduceCtorEq] at e
  | bl b => cases r2 <;> simp only [gIx, reduceCtorEq] at e
  | int b => cases r2 <;> simp only [gIx, reduceCtorEq] at e
  | fn a => cases r2 <;> simp only [gIx, reduceCtorEq] at e
  | dct p l q => cases r2 <;> simp only [gIx, reduceCtorEq] at e
theorem se_ix (ha : SE X C a fa) (hb : SE X C b fb) (hs : PlainIx b := by intro _ _; rfl) : SE X C (.Subscript a b pos) (eBin gIx fa fb) := pe_weak (pe_ix x_ix ha hb hs) fun σ H Q h => lift_bin h

/-! ### slices -/
abbrev Os := Sl → R (Option Int)
def onO (K : PySem.W.Frag) (C : Cc) (σ : L2.St) (G H : Hp) (r : R (Option Int)) (P : Option Int → Hp → Hp → Prop) : Prop := match r with
  | .ok b => ∀ G' H', Stp G H G' H' → P b G' H'
  | .exc e => onX K C σ G H e
  | .stk => False
def liftO (K : PySem.W.Frag) (C : Cc) (f : Os) : TO := fun σ H Q => ∃ δ G, RE K C σ δ G H ∧ onO K C σ G H (f δ) fun b _ H' => Q b H'
abbrev SO (X : Cx) (C : Cc) (e : Option Expr) (f : Os) : Prop := PO X e (liftO X.K C f)
theorem po_weak {X : Cx} {e : Option Expr} {t t' : TO} (h : PO X e t) (w : ∀ σ H Q, t' σ H Q → t σ H Q) : PO X e t' := ⟨fun pins s σ H Q I z => h.run pins s σ H Q I (w σ H Q z)⟩
def oNone : Os := fun _ => .ok none
def oSome (f : E) : Os := fun δ => (f δ).bind fun d => match d with
  | .int i => .ok (some i)
  | _ => .stk
theorem onO_mono {K : PySem.W.Frag} {σ : L2.St} {G H : Hp} {r : R (Option Int)} {P P' : Option Int → Hp → Hp → Prop} (h : onO K C σ G H r P) (w : ∀ b G' H', Stp G H G' H' → P b G' H' → P' b G' H') : onO K C σ G H r P' := by
  cases r with
  | ok d => exact fun G' H' s => w d G' H' s (h G' H' s)
  | exc e => exact h
  | stk => exact h
theorem onR_RO {K : PySem.W.Frag} {σ : L2.St} {G H : Hp} {r : R D} {k : D → R (Option Int)} {P : Option Int → Hp → Hp → Prop} (h : onO K C σ G H (r.bind k) P) : onR K C σ G H r fun d _ G1 H1 => onO K C σ G1 H1 (k d) P := by
  cases r with
  | ok d =>
    intro v G1 H1 s q
    have h' : onO K C σ G H (k d) P := h
    show onO K C σ G1 H1 (k d) P
    cases e : k d with
    | ok d2 => rw [e] at h'; exact fun G2 H2 s2 => h' G2 H2 (s.trans s2)
    | exc e2 => rw [e] at h'; exact onX_step h' s
    | stk => rw [e] at h'; exact h'
  | exc e => exact h
  | stk => exact h
theorem onO_OR {K : PySem.W.Frag} {σ : L2.St} {G H : Hp} {r : R (Option Int)} {k : Option Int → R D} {P : D → V → Hp → Hp → Prop} (h : onR K C σ G H (r.bind k) P) : onO K C σ G H r fun d G1 H1 => onR K C σ G1 H1 (k d) P := by
  cases r with
  | ok d =>
    intro G1 H1 s
    have h' : onR K C σ G H (k d) P := h
    show onR K C σ G1 H1 (k d) P
    cases e : k d with
    | ok d2 => rw [e] at h'; exact fun v2 G2 H2 s2 q2 => h' v2 G2 H2 (s.trans s2) q2
    | exc e2 => rw [e] at h'; exact onX_step h' s
    | stk => rw [e] at h'; exact h'
  | exc e => exact h
  | stk => exact h
theorem so_none : SO X C none oNone := po_weak po_none fun σ H Q ⟨δ, G, re, h⟩ => h G H (Stp.refl re.sub)
theorem so_some (ha : SE X C a fa) : SO X C (some a) (oSome fa) := po_weak (po_some ha) fun σ H Q ⟨δ, G, re, h⟩ =>
  ⟨δ, G, re, onR_mono (onR_RO h) fun d v G1 H1 s1 r1 h1 => by
    cases r1 with
    | int i => exact ⟨i, rfl, h1 G1 H1 (Stp.refl s1.sub)⟩
    | non => exact h1.elim
    | bl b => exact h1.elim
    | str x => exact h1.elim
    | fn x => exact h1.elim
    | dct p l q => exact h1.elim
    | tup p q => exact h1.elim
    | lst p q => exact h1.elim⟩
def cutD (xs : List D) (lo hi : Option Int) : List D := (xs.drop (HT.sIx xs.length 0 lo)).take (HT.sIx xs.length xs.length hi - HT.sIx xs.length 0 lo)
theorem RepL.cut {K : PySem.W.Frag} {G : Hp} {ds : List D} {vs : List V} (r : RepL K G ds vs) (lo hi : Option Int) : RepL K G (cutD ds lo hi) (cutV vs lo hi) := by
  unfold cutD cutV
  rw [r.length]
  exact (r.drop _).take _
def gSl : D → Option Int → Option Int → Option D
  | .lst xs, lo, hi => some (.lst (cutD xs lo hi))
  | .tup xs, lo, hi => some (.tup (cutD xs lo hi))
  | .str z, lo, hi => if z.length ≤ sizeLine then some (.str (cutS z lo hi)) else none
  | _, _, _ => none
def rDS (K : PySem.W.Frag) (g : D → Option Int → Option Int → Option D) : V → Option Int → Option Int → Hp → VK → Prop := fun x lo hi H Q => ∃ G dx d, g dx lo hi = some d ∧ Same G H ∧ Rep K G dx x ∧ ∀ v G' H', Stp G H G' H' → Rep K G' d v → Q v H'
theorem s_sl : SlR X (rDS X.K gSl) := by
  intro pins s σ H x v vl vu lo hi sl Q I rx hs pl pu h
  obtain ⟨G, dx, d, e, sub, r1, h⟩ := h
  cases r1 with
  | lst p q =>
    simp only [gSl, Option.some.injEq] at e
    subst e
    exact sl_list pins s σ H _ v vl vu lo hi sl Q I rx hs pl pu ⟨_, _, rfl, sub.seq p, fun c hc => h _ _ _ (Stp.new sub hc _) (.lst (SqL.of upd_same) ((q.cut lo hi).mono (same_new (sub.free hc) _)))⟩
  | @tup c0 vs0 ds0 p q =>
    simp only [gSl, Option.some.injEq] at e
    subst e
    refine sl_tupA pins s σ H _ v vl vu lo hi sl Q I rx hs pl pu ⟨_, _, rfl, sqt_mono sub p, fun z => ?_, fun _ c hc => h _ _ _ (Stp.new sub hc _) (.tup (SqT.of upd_same) ((q.cut lo hi).mono (same_new (sub.free hc) _)))⟩
    refine h _ G H (Stp.refl sub) (.tup p ?_)
    have e2 := q.cut lo hi
    have e3 : cutV vs0 lo hi = vs0 := by
      unfold cutV
      rw [z.1, z.2, Nat.sub_zero, List.drop_zero, List.take_length]
    rw [e3] at e2
    exact e2
  | str z =>
    simp only [gSl] at e
    split at e
    · rename_i hz
      simp only [Option.some.injEq] at e
      subst e
      exact sl_str pins s σ H _ v vl vu lo hi sl Q I rx hs pl pu ⟨_, rfl, hz, h _ G H (Stp.refl sub) (.str _)⟩
    · exact nomatch e
  | non => simp only [gSl, reduceCtorEq] at e
  | bl b => simp only [gSl, reduceCtorEq] at e
  | int b => simp only [gSl, reduceCtorEq] at e
  | fn a => simp only [gSl, reduceCtorEq] at e
  | dct p l q => simp only [gSl, reduceCtorEq] at e
def eSl (a : E) (lo hi : Os) : E := fun δ => (a δ).bind fun x => (lo δ).bind fun l => (hi δ).bind fun h => R.ofO (gSl x l h)
theorem se_sl {lo hi : Option Expr} {fl fh : Os} (ha : SE X C a fa) (hl : SO X C lo fl) (hh : SO X C hi fh) : SE X C (.Subscript a (.Slice lo hi none p2) pos) (eSl fa fl fh) :=
  pe_weak (pe_slice s_sl ha hl hh) fun σ H Q ⟨δ, G, re, h⟩ => by
    refine ⟨δ, G, re, onR_mono (onR_RR h) fun d v G1 H1 s1 r1 h1 => ?_⟩
    refine ⟨δ, G1, re.step s1, onO_mono (onO_OR h1) fun l G2 H2 s2 h2 => ?_⟩
    refine ⟨δ, G2, (re.step s1).step s2, onO_mono (onO_OR h2) fun u G3 H3 s3 h3 => ?_⟩
    cases e : gSl d l u with
    | none => rw [e] at h3; exact h3.elim
    | some z =>
      rw [e] at h3
      exact ⟨G3, d, z, e, s3.sub, (r1.mono s2.g).mono s3.g, h3⟩
/-- xs[::-1] -/
def gRev : B1
  | .lst xs => some (.lst xs.reverse)
  | _ => none
theorem se_rev {k : Nat} {p1 p3 p4 : Pos} (ha : SE X C a fa) : SE X C (.Subscript a (.Slice none none (some (.UnaryOp .USub (.Constant (.int 1) k p1) p3)) p4) pos) (eUn gRev fa) :=
  pe_weak (pe_revL ha) fun σ H Q h => by
    have h1 := lift_un h
    obtain ⟨δ, G, re, h1⟩ := h1
    refine ⟨δ, G, re, onR_mono h1 fun d v G1 H1 s1 r1 h2 => ?_⟩
    obtain ⟨G2, dx, d2, e, sub, r2, h2⟩ := h2
    cases r2 <;> simp only [gRev, Option.some.injEq, reduceCtorEq] at e
    rename_i c vs ds p q
    subst e
    exact ⟨_, _, rfl, sub.seq p, fun l hl => h2 _ _ _ (Stp.new sub hl _) (.lst (SqL.of upd_same) (q.reverse.mono (same_new (sub.free hl) _)))⟩

/-! ### isinstance -/
def tyN : D → Option String
  | .non => some "NoneType"
  | .bl _ => some "bool"
  | .int _ => some "int"
  | .str _ => some "str"
  | .tup _ => some "tuple"
  | .lst _ => some "list"
  | .fn _ => none
  | .dct _ _ => some "dict"
theorem Rep.tyx {K : PySem.W.Frag} {G H : Hp} (sub : Same G H) {d : D} {v : V} {n : String} (r : Rep K G d v) (e : tyN d = some n) : TyX K H v (.type n) := by
  cases r <;> simp only [tyN, Option.some.injEq, reduceCtorEq] at e <;> subst e
  · exact .base .non
  · exact .base (.bl _)
  · exact .base (.int _)
  · exact .base (.str _)
  · rename_i a vs ds h r
    rcases sqt_mono sub h with (h | ⟨o, h⟩) | ⟨o, its, m, h, c, _⟩
    · exact .base (.tup h)
    · exact .fTuple h
    · exact .kTuple h c
  · rename_i a vs ds h r
    rcases sub.seq h with (h | ⟨o, h⟩) | ⟨o, its, m, h, c, _⟩
    · exact .base (.lst h)
    · exact .base (.frz h)
    · exact .kList h c
  · rename_i a vs ks ds h l r
    exact .base (.dK (sub _ _ h))
/-- the built-in class n of a datum's class -/
def isTy : String → String → Bool
  | "bool", "int" => true
  | a, b => a == b
def gIsi (n : String) : B1 := fun d => (tyN d).map fun t => .bl (isTy t n)
def okTy (n : String) : Bool := ["NoneType", "bool", "int", "str", "tuple", "list", "dict"].all fun t => decide (kitB t n = some (isTy t n))
theorem tyN_mem {d : D} {t : String} (h : tyN d = some t) : t ∈ ["NoneType", "bool", "int", "str", "tuple", "list", "dict"] := by
  cases d <;> simp only [tyN, Option.some.injEq, reduceCtorEq] at h <;> subst h <;> simp
theorem se_isi {pf pn : Pos} {n : String} {nx : Str} (ha : SE X C a fa) (hg : Gl X "isinstance") (hm : X.mg "isinstance" = none) (hgn : Gl X nx) (hmn : X.mg nx = none) (hv : bootBuiltins nx = some (.type n)) (hk : okTy n = true := by decide +kernel)
    (hn : nx ≠ "__name__" := by decide) (hd : (nx == ("__debug__" : Str)) = false := by decide) (hvi : bootBuiltins "isinstance" = some (.builtin "isinstance") := by decide +kernel)
    (hs : starEach [a, .Name nx pn] X.env = (false, eval a X.env) :: starEach [.Name nx pn] X.env := by rfl) (hpl : (backTo pos (starEach [.Name nx pn] X.env)).any (·.1) = false := by rfl)
    (hs2 : starEach [.Name nx pn] X.env = (false, eval (.Name nx pn) X.env) :: starEach [] X.env := by rfl) :
    SE X C (.Call (.Name "isinstance" pf) [a, .Name nx pn] [] pos) (eUn (gIsi n) fa) :=
  pe_weak (pe_callB call_isi hg hm hvi (pa_cons ha (pa_cons (pe_bltn (v := .ty n) hgn hmn hv rfl hn hd) pa_nil hs2) hs) (by decide) (by decide) hs hpl) fun σ H Q h => by
    obtain ⟨δ, G, re, h1⟩ := lift_un h
    refine ⟨δ, G, re, onR_mono h1 fun d v G1 H1 s1 r1 h2 => ?_⟩
    obtain ⟨G2, dx, d2, e, sub, r2, h2⟩ := h2
    unfold gIsi at e
    cases q : tyN dx with
    | none => rw [q] at e; exact nomatch e
    | some t =>
      rw [q] at e
      simp only [Option.map_some, Option.some.injEq] at e
      subst e
      have z : kitB t n = some (isTy t n) := of_decide_eq_true (List.all_eq_true.mp hk t (tyN_mem q))
      exact ⟨v, .ty n, .type t, .type n, isTy t n, rfl, .ty n, r2.tyx sub q, kit_ty z, h2 _ G2 H1 (Stp.refl sub) (.bl _)⟩
/-- isinstance(x, (T, U)) -/
def gIsi2 (n m : String) : B1 := fun d => (tyN d).map fun t => .bl (isTy t n || isTy t m)
theorem se_isi2 {pf pn pm pt : Pos} {kt : Nat} {n m : String} {nx mx : Str} (ha : SE X C a fa) (hg : Gl X "isinstance") (hm : X.mg "isinstance" = none) (hgn : Gl X nx) (hmn : X.mg nx = none) (hv : bootBuiltins nx = some (.type n)) (hgm : Gl X mx) (hmm : X.mg mx = none) (hvm : bootBuiltins mx = some (.type m)) (hk : okTy n = true := by decide +kernel) (hk2 : okTy m = true := by decide +kernel)
    (hn : nx ≠ "__name__" := by decide) (hd : (nx == ("__debug__" : Str)) = false := by decide) (hn2 : mx ≠ "__name__" := by decide) (hd2 : (mx == ("__debug__" : Str)) = false := by decide) (hvi : bootBuiltins "isinstance" = some (.builtin "isinstance") := by decide +kernel)
    (hs : starEach [a, .Tuple [.Name nx pn, .Name mx pm] kt pt] X.env = (false, eval a X.env) :: starEach [.Tuple [.Name nx pn, .Name mx pm] kt pt] X.env := by rfl) (hpl : (backTo pos (starEach [.Tuple [.Name nx pn, .Name mx pm] kt pt] X.env)).any (·.1) = false := by rfl)
    (hs2 : starEach [.Tuple [.Name nx pn, .Name mx pm] kt pt] X.env = (false, eval (.Tuple [.Name nx pn, .Name mx pm] kt pt) X.env) :: starEach [] X.env := by rfl)
    (hs3 : starEach [.Name nx pn, .Name mx pm] X.env = (false, eval (.Name nx pn) X.env) :: starEach [.Name mx pm] X.env := by rfl) (hs4 : starEach [.Name mx pm] X.env = (false, eval (.Name mx pm) X.env) :: starEach [] X.env := by rfl) :
    SE X C (.Call (.Name "isinstance" pf) [a, .Tuple [.Name nx pn, .Name mx pm] kt pt] [] pos) (eUn (gIsi2 n m) fa) :=
  pe_weak (pe_callB call_isiT hg hm hvi (pa_cons ha (pa_cons (pe_tup (pa_cons (pe_bltn (v := .ty n) hgn hmn hv rfl hn hd) (pa_cons (pe_bltn (v := .ty m) hgm hmm hvm rfl hn2 hd2) pa_nil hs4) hs3)) pa_nil hs2) hs) (by decide) (by decide) hs hpl) fun σ H Q h => by
    obtain ⟨δ, G, re, h1⟩ := lift_un h
    refine ⟨δ, G, re, onR_mono h1 fun d v G1 H1 s1 r1 h2 => ?_⟩
    obtain ⟨G2, dx, d2, e, sub, r2, h2⟩ := h2
    unfold gIsi2 at e
    cases q : tyN dx with
    | none => rw [q] at e; exact nomatch e
    | some t =>
      rw [q] at e
      simp only [Option.map_some, Option.some.injEq] at e
      subst e
      have z : kitB t n = some (isTy t n) := of_decide_eq_true (List.all_eq_true.mp hk t (tyN_mem q))
      have z2 : kitB t m = some (isTy t m) := of_decide_eq_true (List.all_eq_true.mp hk2 t (tyN_mem q))
      refine ⟨by show 2 ≤ sizeLine; decide, fun c hc => ?_⟩
      have ty := r2.tyx (sub.trans (same_new hc (.tup [V.ty n, V.ty m]))) q
      refine ⟨v, c, [.ty n, .ty m], .type t, [.type n, .type m], isTy t n || isTy t m, rfl, upd_same, .cons (.ty n) (.cons (.ty m) .nil), ty, ?_, h2 _ G2 _ (Stp.newH sub hc _) (.bl _)⟩
      refine kitAny_cons (kit_ty z) (fun b1 => ?_) (fun b1 => ?_)
      · rw [b1, Bool.false_or]
        exact kitAny_cons (kit_ty z2) (fun b2 => by rw [b2]; exact kitAny_nil) (fun b2 => b2)
      · rw [b1, Bool.true_or]

/-! ### methods of texts -/
def rDM (K : PySem.W.Frag) (g : D → List D → Option D) : V → List V → Hp → VK → Prop := fun x xs H Q => ∃ G dx ds d, g dx ds = some d ∧ Same G H ∧ Rep K G dx x ∧ RepL K G ds xs ∧ ∀ v G' H', Stp G H G' H' → Rep K G' d v → Q v H'
def isStr : D → Bool
  | .str _ => true
  | _ => false
def eM1 (g : D → List D → Option D) (o a : E) : E := fun δ => (o δ).bind fun x => if isStr x then (a δ).bind fun y => R.ofO (g x [y]) else .stk
theorem se_m1 {o : Expr} {fo : E} {g : D → List D → Option D} {id : String} {name : Str} {apos : Pos} (slot : PySem.Slot "str" name id) (ty : typeOf (.builtin id) = pure (.type "method_descriptor")) (rule : MtR X id (rDM X.K g)) (ho : SE X C o fo) (ha : SE X C a fa)
    (hs : starEach [a] X.env = [(false, eval a X.env)] := by rfl) (hbase : attributeBase o name X.env (eval o X.env) = eval o X.env := by rfl) (hline : (apos.endLine == pos.line) = true := by rfl) : SE X C (.Call (.Attribute o name apos) [a] [] pos) (eM1 g fo fa) :=
  pe_weak (pe_m1 slot ty rule ho ha hs hbase hline) fun σ H Q ⟨δ, G, re, h⟩ => by
    refine ⟨δ, G, re, onR_mono (onR_RR h) fun d v G1 H1 s1 r1 h1 => ?_⟩
    cases r1 with
    | str z =>
      refine ⟨⟨z, rfl⟩, δ, G1, re.step s1, onR_mono (onR_RR (show onR X.K C σ G1 H1 ((fa δ).bind fun y => R.ofO (g (.str z) [y])) _ from h1)) fun d2 v2 G2 H2 s2 r2 h2 => ?_⟩
      cases e : g (.str z) [d2] with
      | none => rw [e] at h2; exact h2.elim
      | some w =>
        rw [e] at h2
        exact ⟨G2, _, _, w, e, s2.sub, .str z, .cons r2 .nil, h2⟩
    | non => exact h1.elim
    | bl b => exact h1.elim
    | int b => exact h1.elim
    | fn b => exact h1.elim
    | dct p l q => exact h1.elim
    | tup p q => exact h1.elim
    | lst p q => exact h1.elim
def gFind : D → List D → Option D
  | .str a, [.str b] => some (.int (Txt.find a b))
  | _, _ => none
def gStarts : D → List D → Option D
  | .str a, [.str b] => some (.bl (Txt.startswith a b))
  | _, _ => none
def gPart : D → List D → Option D
  | .str a, [.str b] => if (b.length == 0) = false ∧ a.length ≤ sizeLine then some (.tup [.str (Txt.partition a b).1, .str (Txt.partition a b).2.1, .str (Txt.partition a b).2.2]) else none
  | _, _ => none
def gSplit : D → List D → Option D
  | .str a, [.str b] => if (b.length == 0) = false ∧ a.length + 2 ≤ sizeLine then some (.lst ((Txt.split a b).map .str)) else none
  | _, _ => none
def gJoin : D → List D → Option D
  | .str a, [.lst xs] => (strsOf xs).bind fun ys => if (ys.map (·.length)).sum + ys.length * a.length ≤ 16777216 then some (.str (Txt.join a ys)) else none
  | _, _ => none
theorem m_find : MtR X "str.find" (rDM X.K gFind) := by
  intro pins s σ H x xs v us Q I rx ru h
  obtain ⟨G, dx, ds, d, e, sub, r1, r2, h⟩ := h
  unfold gFind at e
  split at e
  · cases r1
    cases r2 with
    | cons r2 r3 =>
      cases r2; cases r3
      simp only [Option.some.injEq] at e
      subst e
      exact mt_find pins s σ H _ _ v us Q I rx ru ⟨_, _, rfl, rfl, h _ G H (Stp.refl sub) (.int _)⟩
  · exact nomatch e
theorem m_starts : MtR X "str.startswith" (rDM X.K gStarts) := by
  intro pins s σ H x xs v us Q I rx ru h
  obtain ⟨G, dx, ds, d, e, sub, r1, r2, h⟩ := h
  unfold gStarts at e
  split at e
  · cases r1
    cases r2 with
    | cons r2 r3 =>
      cases r2; cases r3
      simp only [Option.some.injEq] at e
      subst e
      exact mt_startswith pins s σ H _ _ v us Q I rx ru ⟨_, _, rfl, rfl, h _ G H (Stp.refl sub) (.bl _)⟩
  · exact nomatch e
theorem m_part : MtR X "str.partition" (rDM X.K gPart) := by
  intro pins s σ H x xs v us Q I rx ru h
  obtain ⟨G, dx, ds, d, e, sub, r1, r2, h⟩ := h
  unfold gPart at e
  split at e
  · cases r1
    cases r2 with
    | cons r2 r3 =>
      cases r2; cases r3
      split at e
      · rename_i hz
        simp only [Option.some.injEq] at e
        subst e
        exact mt_partition pins s σ H _ _ v us Q I rx ru ⟨_, _, rfl, rfl, hz.1, hz.2, fun c hc => h _ _ _ (Stp.new sub hc _) (.tup (SqT.of upd_same) (.cons (.str _) (.cons (.str _) (.cons (.str _) .nil))))⟩
      · exact nomatch e
  · exact nomatch e
theorem RepL.strs {K : PySem.W.Frag} {G : Hp} : ∀ ns : List Str, RepL K G (ns.map D.str) (ns.map V.str)
  | [] => .nil
  | n :: r => .cons (.str n) (RepL.strs r)
theorem m_split : MtR X "str.split" (rDM X.K gSplit) := by
  intro pins s σ H x xs v us Q I rx ru h
  obtain ⟨G, dx, ds, d, e, sub, r1, r2, h⟩ := h
  unfold gSplit at e
  split at e
  · cases r1
    cases r2 with
    | cons r2 r3 =>
      cases r2; cases r3
      split at e
      · rename_i hz
        simp only [Option.some.injEq] at e
        subst e
        exact mt_split pins s σ H _ _ v us Q I rx ru ⟨_, _, rfl, rfl, hz.1, hz.2, fun c hc => h _ _ _ (Stp.new sub hc _) (.lst (SqL.of upd_same) (RepL.strs _))⟩
      · exact nomatch e
  · exact nomatch e
theorem m_join : MtR X "str.join" (rDM X.K gJoin) := by
  intro pins s σ H x xs v us Q I rx ru h
  obtain ⟨G, dx, ds, d, e, sub, r1, r2, h⟩ := h
  unfold gJoin at e
  split at e
  · rename_i a ys
    cases q1 : strsOf ys with
    | none => rw [q1] at e; exact nomatch e
    | some ns =>
      rw [q1] at e
      simp only [Option.bind_some] at e
      have e2 := strsOf_eq q1
      subst e2
      split at e
      · rename_i hz
        simp only [Option.some.injEq] at e
        subst e
        cases r1
        cases r2 with
        | cons r2 r3 =>
          cases r3
          cases r2 with
          | lst p q =>
            have e3 := RepL.of_strs q
            subst e3
            exact mt_join pins s σ H _ _ v us Q I rx ru ⟨_, _, ns, rfl, rfl, .inl (sub.seq p), hz, h _ G H (Stp.refl sub) (.str _)⟩
      · exact nomatch e
  · exact nomatch e
end
end Fs

/-! F5: statements, targets, loops. -/
namespace Fs
open PySem L2

inductive RS where
  | nx (δ : Sl) | rt (d : D) | bk (δ : Sl) | ct (δ : Sl) | exc (e : Ex) (δ : Sl) | stk
abbrev S := Sl → RS
def onS (K : PySem.W.Frag) (C : Cc) (G : Hp) (r : RS) (Dn : Ends) : Prop := match r with
  | .nx δ => ∀ σ' G' H', RE K C σ' δ G' H' → Same G G' → Dn.nx σ' H'
  | .bk δ => ∀ σ' G' H', RE K C σ' δ G' H' → Same G G' → Dn.bk σ' H'
  | .ct δ => ∀ σ' G' H', RE K C σ' δ G' H' → Same G G' → Dn.ct σ' H'
  | .rt d => ∀ v G' H', Stp C.G0 C.H0 G' H' → Rep K G' d v → Dn.rt v H'
  | .exc e δ => ∀ cls dd σ' G' H', RE K C σ' δ G' H' → Same G G' → RepX K C.ct G' H' e cls dd → C.W cls dd σ' H'
  | .stk => False
def liftS (K : PySem.W.Frag) (C : Cc) (f : S) : TS := fun Dn σ H => ∃ δ G, RE K C σ δ G H ∧ onS K C G (f δ) Dn
abbrev SS (X : Cx) (C : Cc) (st : Stmt) (f : S) : Prop := PS X st (liftS X.K C f)
abbrev SSs (X : Cx) (C : Cc) (st : List Stmt) (f : S) : Prop := PSs X st (liftS X.K C f)
theorem ps_weak {X : Cx} {e : Stmt} {t t' : TS} (h : PS X e t) (w : ∀ Dn σ H, t' Dn σ H → t Dn σ H) : PS X e t' := ⟨fun pins s σ H Dn I z => h.run pins s σ H Dn I (w Dn σ H z)⟩
theorem pss_weak {X : Cx} {e : List Stmt} {t t' : TS} (h : PSs X e t) (w : ∀ Dn σ H, t' Dn σ H → t Dn σ H) : PSs X e t' := ⟨fun pins s σ H Dn I z => h.run pins s σ H Dn I (w Dn σ H z)⟩

section
variable {K : PySem.W.Frag} {C : Cc} {σ : L2.St} {G G' H : Hp} {Dn : Ends}
theorem onS_same {r : RS} (s : Same G G') (h : onS K C G r Dn) : onS K C G' r Dn := by
  cases r with
  | nx δ => exact fun σ' G2 H2 re z => h σ' G2 H2 re (s.trans z)
  | bk δ => exact fun σ' G2 H2 re z => h σ' G2 H2 re (s.trans z)
  | ct δ => exact fun σ' G2 H2 re z => h σ' G2 H2 re (s.trans z)
  | rt d => exact h
  | exc e δ => exact fun cls dd σ' G2 H2 re z => h cls dd σ' G2 H2 re (s.trans z)
  | stk => exact h
/-- an expression ahead of a statement's rest -/
def sBind {α : Type} (r : R α) (δ : Sl) (k : α → RS) : RS := match r with
  | .ok a => k a
  | .exc e => .exc e δ
  | .stk => .stk
theorem onX_of {δ : Sl} {e : Ex} (re : RE K C σ δ G H) (h : onS K C G (.exc e δ) Dn) : onX K C σ G H e := fun cls dd G' H' s r => h cls dd σ G' H' (re.step s) s.g r
theorem onS_R {δ : Sl} {r : R D} {k : D → RS} (re : RE K C σ δ G H) (h : onS K C G (sBind r δ k) Dn) : onR K C σ G H r fun d _ G1 _ => onS K C G1 (k d) Dn := by
  cases r with
  | ok d => exact fun v G1 H1 s q => onS_same s.g h
  | exc e => exact onX_of re h
  | stk => exact h
theorem onS_B {δ : Sl} {r : R Bool} {k : Bool → RS} (re : RE K C σ δ G H) (h : onS K C G (sBind r δ k) Dn) : onB K C σ G H r fun d G1 _ => onS K C G1 (k d) Dn := by
  cases r with
  | ok d => exact fun G1 H1 s => onS_same s.g h
  | exc e => exact onX_of re h
  | stk => exact h
end

/-! ### blocks -/
def sNx : S := fun δ => .nx δ
def sSeq (f g : S) : S := fun δ => match f δ with
  | .nx δ' => g δ'
  | r => r
section
variable {X : Cx} {C : Cc} {pos : Pos} {st : Stmt} {rest : List Stmt} {f g : S}
theorem ss_nil : SSs X C [] sNx := pss_weak pss_nil fun Dn σ H ⟨δ, G, re, h⟩ => h σ G H re (Same.refl _)
theorem ss_one (h1 : SS X C st f) : SSs X C [st] f := pss_one h1
theorem ss_cons (h1 : SS X C st f) (h2 : SSs X C rest g) : SSs X C (st :: rest) (sSeq f g) := pss_weak (pss_cons h1 h2) fun Dn σ H ⟨δ, G, re, h⟩ => by
  refine ⟨δ, G, re, ?_⟩
  unfold sSeq at h
  cases e : f δ with
  | nx δ' => rw [e] at h; exact fun σ' G' H' re' s => ⟨δ', G', re', onS_same s h⟩
  | rt d => rw [e] at h; exact h
  | bk δ' => rw [e] at h; exact h
  | ct δ' => rw [e] at h; exact h
  | exc e2 δ' => rw [e] at h; exact h
  | stk => rw [e] at h; exact h
theorem ss_pass : SS X C (.Pass pos) sNx := ps_weak ps_pass fun Dn σ H ⟨δ, G, re, h⟩ => h σ G H re (Same.refl _)
def sBk : S := fun δ => .bk δ
def sCt : S := fun δ => .ct δ
theorem ss_break : SS X C (.Break pos) sBk := ps_weak ps_break fun Dn σ H ⟨δ, G, re, h⟩ => h σ G H re (Same.refl _)
theorem ss_cont : SS X C (.Continue pos) sCt := ps_weak ps_continue fun Dn σ H ⟨δ, G, re, h⟩ => h σ G H re (Same.refl _)
def sRet (f : E) : S := fun δ => sBind (f δ) δ fun d => .rt d
theorem ss_ret {e : Expr} {f : E} (he : SE X C e f) : SS X C (.Return (some e) pos) (sRet f) := ps_weak (ps_ret he) fun Dn σ H ⟨δ, G, re, h⟩ =>
  ⟨δ, G, re, onR_mono (onS_R re h) fun d v G1 H1 s1 r1 h1 => h1 v G1 H1 (re.st.trans s1) r1⟩
def sRetN : S := fun _ => .rt .non
theorem ss_retN : SS X C (.Return none pos) sRetN := ps_weak ps_retN fun Dn σ H ⟨δ, G, re, h⟩ => h .non G H re.st .non
def sIf (t : T) (a b : S) : S := fun δ => sBind (t δ) δ fun k => if k = true then a δ else b δ
theorem ss_if {c : Expr} {a b : List Stmt} {t : T} {fa fb : S} (hc : ST X C c t) (ha : SSs X C a fa) (hb : SSs X C b fb) : SS X C (.If c a b pos) (sIf t fa fb) := ps_weak (ps_if hc ha hb) fun Dn σ H ⟨δ, G, re, h⟩ => by
  refine ⟨δ, G, re, onB_mono (onS_B re h) fun k G1 H1 s1 h1 => ?_⟩
  cases k with
  | true => exact ⟨δ, G1, re.step s1, h1⟩
  | false => exact ⟨δ, G1, re.step s1, h1⟩
def sDrop (f : E) : S := fun δ => sBind (f δ) δ fun _ => .nx δ
theorem ss_expr {e : Expr} {f : E} (he : SE X C e f) (hs : swapsWith e none pos.line X.env = pure false := by rfl) : SS X C (.Expr e pos) (sDrop f) := ps_weak (ps_expr he hs) fun Dn σ H ⟨δ, G, re, h⟩ =>
  ⟨δ, G, re, onR_mono (onS_R re h) fun d v G1 H1 s1 r1 h1 => h1 σ G1 H1 (re.step s1) (Same.refl _)⟩
def sStk : S := fun _ => .stk
theorem ss_never : SS X C st sStk := ps_weak ps_never fun Dn σ H ⟨δ, G, re, h⟩ => h
def sSet (i : Nat) (f : E) : S := fun δ => sBind (f δ) δ fun d => .nx (δ.set i (.v d))
theorem ss_set (i : Nat) {x : Str} {e : Expr} {f : E} {pos' : Pos} (he : SE X C e f) (hN : X.N.Nodup) (hi : X.N[i]? = some x := by rfl) (hx : Loc X.env.scope x := by first | exact Or.inl rfl | exact Or.inr rfl) (hs : swapsWith e (some (.Name x pos')) pos.line X.env = pure false := by rfl)
    (hf : X.fn x = true ∨ X.env.scope.names.lookup x = some .local := by first | exact Or.inr rfl | exact Or.inl rfl) : SS X C (.Assign [.Name x pos'] e pos) (sSet i f) := ps_weak (ps_set hN hi hx he hs hf) fun Dn σ H ⟨δ, G, re, h⟩ =>
  ⟨δ, G, re, onR_mono (onS_R re h) fun d v G1 H1 s1 r1 h1 => h1 (σ.set i (some v)) G1 H1 ((re.step s1).setV i r1) (Same.refl _)⟩
end

/-! ### targets -/
inductive Pt where
  | nm (i : Nat) | tp (ps : List Pt)
mutual
def bindP : Pt → D → Sl → Option Sl
  | .nm i, d, δ => some (δ.set i (.v d))
  | .tp ps, .tup ds, δ => bindPs ps ds δ
  | .tp ps, .lst ds, δ => bindPs ps ds δ
  | _, _, _ => none
def bindPs : List Pt → List D → Sl → Option Sl
  | [], [], δ => some δ
  | p :: ps, d :: ds, δ => match bindP p d δ with
    | some δ' => bindPs ps ds δ'
    | none => none
  | _, _, _ => none
end
mutual
def idxP : Pt → List Nat
  | .nm i => [i]
  | .tp ps => idxPs ps
def idxPs : List Pt → List Nat
  | [] => []
  | p :: ps => idxP p ++ idxPs ps
end
/-- σ' differs from σ at these places alone -/
def Off (is : List Nat) (σ σ' : L2.St) : Prop := σ'.length = σ.length ∧ ∀ j, j ∉ is → σ'[j]? = σ[j]?
theorem Off.refl {is : List Nat} {σ : L2.St} : Off is σ σ := ⟨rfl, fun _ _ => rfl⟩
theorem Off.trans {is js : List Nat} {σ σ1 σ2 : L2.St} (a : Off is σ σ1) (b : Off js σ1 σ2) : Off (is ++ js) σ σ2 :=
  ⟨b.1.trans a.1, fun j hj => (b.2 j fun z => hj (List.mem_append_right _ z)).trans (a.2 j fun z => hj (List.mem_append_left _ z))⟩
def liftG (K : PySem.W.Frag) (C : Cc) (p : Pt) : TG := fun v σ H Q => ∃ d δ G δ', RE K C σ δ G H ∧ Rep K G d v ∧ bindP p d δ = some δ' ∧ ∀ σ', RE K C σ' δ' G H → Off (idxP p) σ σ' → Q σ' H
def liftGs (K : PySem.W.Frag) (C : Cc) (ps : List Pt) : TGs := fun vs σ H Q => ∃ ds δ G δ', RE K C σ δ G H ∧ RepL K G ds vs ∧ bindPs ps ds δ = some δ' ∧ ∀ σ', RE K C σ' δ' G H → Off (idxPs ps) σ σ' → Q σ' H
abbrev SG (X : Cx) (C : Cc) (e : Expr) (p : Pt) : Prop := PG X e (liftG X.K C p)
abbrev SGs (X : Cx) (C : Cc) (es : List Expr) (ps : List Pt) : Prop := PGs X es (liftGs X.K C ps)
theorem pg_weak {X : Cx} {e : Expr} {t t' : TG} (h : PG X e t) (w : ∀ v σ H Q, t' v σ H Q → t v σ H Q) : PG X e t' := ⟨fun pins s σ H v u Q I r z => h.run pins s σ H v u Q I r (w v σ H Q z)⟩
theorem pgs_weak {X : Cx} {e : List Expr} {t t' : TGs} (h : PGs X e t) (w : ∀ v σ H Q, t' v σ H Q → t v σ H Q) : PGs X e t' := ⟨fun pins s σ H v u Q I r z => h.run pins s σ H v u Q I r (w v σ H Q z)⟩
section
variable {X : Cx} {C : Cc} {pos : Pos}
theorem sg_name (i : Nat) {x : Str} (hN : X.N.Nodup) (hi : X.N[i]? = some x := by rfl) (hx : Loc X.env.scope x := by first | exact Or.inl rfl | exact Or.inr rfl) (hf : X.fn x = true ∨ X.env.scope.names.lookup x = some .local := by first | exact Or.inr rfl | exact Or.inl rfl) : SG X C (.Name x pos) (.nm i) :=
  pg_weak (pg_name hN hi hx hf) fun v σ H Q ⟨d, δ, G, δ', re, r, e, h⟩ => by
    simp only [bindP, Option.some.injEq] at e
    subst e
    refine h _ (re.setV i r) ⟨by simp, fun j hj => ?_⟩
    rw [List.getElem?_set_ne]
    intro z
    exact hj (by simp [idxP, z])
theorem sgs_nil : SGs X C [] [] := pgs_weak pgs_nil fun v σ H Q ⟨ds, δ, G, δ', re, r, e, h⟩ => by
  cases r with
  | nil =>
    simp only [bindPs, Option.some.injEq] at e
    subst e
    exact ⟨rfl, h σ re Off.refl⟩
  | cons a b => simp [bindPs] at e
theorem sgs_cons {e : Expr} {es : List Expr} {p : Pt} {ps : List Pt} (h1 : SG X C e p) (h2 : SGs X C es ps) (hs : (assignEach (e :: es) X.env).map (·.2) = assign e X.env :: (assignEach es X.env).map (·.2) := by rfl) : SGs X C (e :: es) (p :: ps) :=
  pgs_weak (pgs_cons h1 h2 hs) fun v σ H Q ⟨ds, δ, G, δ', re, r, e, h⟩ => by
    cases r with
    | nil => simp [bindPs] at e
    | @cons d9 v0 ds0 vs0 a b =>
      simp only [bindPs] at e
      cases q : bindP p d9 δ with
      | none => rw [q] at e; exact nomatch e
      | some δ1 =>
        rw [q] at e
        exact ⟨v0, vs0, rfl, d9, δ, G, δ1, re, a, q, fun σ1 re1 o1 => ⟨ds0, δ1, G, δ', re1, b, e, fun σ2 re2 o2 => h σ2 re2 (o1.trans o2)⟩⟩
theorem sg_tup {es : List Expr} {k : Nat} {ps : List Pt} (hc : X.calm = true) (h : SGs X C es ps) (hl : es.length = ps.length := by rfl) (hn : (assignEach es X.env).length = es.length := by rfl) (hst : (assignEach es X.env).findIdx? (·.1) = none := by rfl) :
    SG X C (.Tuple es k pos) (.tp ps) := by
  have len : ∀ {ps : List Pt} {ds : List D} {δ δ' : Sl}, bindPs ps ds δ = some δ' → ds.length = ps.length := by
    intro ps
    induction ps with
    | nil => intro ds δ δ' e; cases ds with
      | nil => rfl
      | cons a b => simp [bindPs] at e
    | cons p ps ih => intro ds δ δ' e; cases ds with
      | nil => simp [bindPs] at e
      | cons a b =>
        simp only [bindPs] at e
        cases q : bindP p a δ with
        | none => rw [q] at e; exact nomatch e
        | some δ1 => rw [q] at e; simp [ih e]
  refine ⟨fun pins s σ H v u Q I rv ⟨d, δ, G, δ', re, r, e, z⟩ => ?_⟩
  cases r with
  | @tup a vs ds p q =>
    simp only [bindP] at e
    have l1 := len e
    have l2 := q.length
    exact (pg_tup hc h hn hst).run pins s σ H _ u Q I rv ⟨a, vs, rfl, sqt_mono re.sub p, by omega, ds, δ, G, δ', re, q, e, fun σ' re' o => z σ' re' o⟩
  | @lst a vs ds p q =>
    simp only [bindP] at e
    have l1 := len e
    have l2 := q.length
    exact (pg_lst hc h hn hst).run pins s σ H _ u Q I rv ⟨a, vs, rfl, re.sub.seq p, by omega, ds, δ, G, δ', re, q, e, fun σ' re' o => z σ' re' o⟩
  | non => simp [bindP] at e
  | bl b => simp [bindP] at e
  | int b => simp [bindP] at e
  | str b => simp [bindP] at e
  | fn b => simp [bindP] at e
  | dct p l q => simp [bindP] at e
def sBindP (p : Pt) (d : D) (δ : Sl) : RS := match bindP p d δ with
  | some δ' => .nx δ'
  | none => .stk
def sAsg (p : Pt) (f : E) : S := fun δ => sBind (f δ) δ fun d => sBindP p d δ
theorem ss_asg {tg e : Expr} {p : Pt} {f : E} (he : SE X C e f) (hg : SG X C tg p) (hs : swapsWithSole [tg] e pos.line X.env = pure false := by rfl) (hw : swappedStores [tg] e X.env = pure none := by rfl)
    (h1 : (assignEach [tg] X.env).map (·.2) = [assign tg X.env] := by rfl) : SS X C (.Assign [tg] e pos) (sAsg p f) := ps_weak (ps_asg he hg hs hw h1) fun Dn σ H ⟨δ, G, re, h⟩ =>
  ⟨δ, G, re, onR_mono (onS_R re h) fun d0 v G1 H1 s1 r1 h1 => by
    unfold sBindP at h1
    cases q : bindP p d0 δ with
    | none => rw [q] at h1; exact h1.elim
    | some δ' => rw [q] at h1; exact ⟨d0, δ, G1, δ', re.step s1, r1, q, fun σ' re' _ => h1 σ' G1 H1 re' (Same.refl _)⟩⟩
/-- a, b = e1, e2 -/
def sPar (i j : Nat) (a : As) : S := fun δ => match a δ with
  | .ok [x, y] => .nx ((δ.set i (.v x)).set j (.v y))
  | .ok _ => .stk
  | .exc e => .exc e δ
  | .stk => .stk
/-- x op= e -/
def sAug (i : Nat) (g : B2) (f : E) : S := fun δ => match δ[i]? with
  | some (.v x) => sBind (f δ) δ fun y => match g x y with
    | some z => .nx (δ.set i (.v z))
    | none => .stk
  | _ => .stk
theorem ss_aug (i : Nat) {x : Str} {e : Expr} {f : E} {op : Operator} {g : B2} {pos' : Pos} (ho : OpR X (inplaceOp op) (rD X.K g)) (he : SE X C e f) (hN : X.N.Nodup) (hi : X.N[i]? = some x := by rfl) (hx : Loc X.env.scope x := by first | exact Or.inl rfl | exact Or.inr rfl)
    (hf : X.fn x = true ∨ X.env.scope.names.lookup x = some .local := by first | exact Or.inr rfl | exact Or.inl rfl) : SS X C (.AugAssign (.Name x pos') op e pos) (sAug i g f) :=
  ps_weak (ps_aug hN hi hx he ho hf) fun Dn σ H ⟨δ, G, re, h⟩ => by
    unfold sAug at h
    cases q : δ[i]? with
    | none => rw [q] at h; exact h.elim
    | some sl =>
      rw [q] at h
      cases sl with
      | un => exact h.elim
      | own xs => exact h.elim
      | v d0 =>
        obtain ⟨v0, e0, r0⟩ := re.val q
        refine ⟨v0, e0, δ, G, re, onR_mono (onS_R re h) fun d v G1 H1 s1 r1 h1 => ?_⟩
        cases z : g d0 d with
        | none => rw [z] at h1; exact h1.elim
        | some w =>
          rw [z] at h1
          exact ⟨G1, d0, d, w, z, s1.sub, r0.mono s1.g, r1, fun v2 G2 H2 s2 r2 => h1 _ G2 H2 (((re.step s1).step s2).setV i r2) s2.g⟩
theorem io_add : OpR X (inplaceOp .Add) (rD X.K (fun x y => match x, y with | .int i, .int j => some (.int (i + j)) | _, _ => none)) := by
  intro pins s σ H x y v u Q I rx ry h
  obtain ⟨G, dx, dy, d, e, sub, r1, r2, h⟩ := h
  cases r1 <;> cases r2 <;> simp only [Option.some.injEq, reduceCtorEq] at e
  subst e
  exact iop_add pins s σ H _ _ v u Q I rx ry ⟨_, _, rfl, rfl, h _ G H (Stp.refl sub) (.int _)⟩
theorem io_sub : OpR X (inplaceOp .Sub) (rD X.K gSub) := by
  intro pins s σ H x y v u Q I rx ry h
  obtain ⟨G, dx, dy, d, e, sub, r1, r2, h⟩ := h
  cases r1 <;> cases r2 <;> simp only [gSub, Option.some.injEq, reduceCtorEq] at e
  subst e
  exact iop_sub pins s σ H _ _ v u Q I rx ry ⟨_, _, rfl, rfl, h _ G H (Stp.refl sub) (.int _)⟩
end

/-! ### for -/
structure ItOk (K : PySem.W.Frag) (J : It) (G : Hp) (items : List D) : Prop where
  go : ∀ i H, Same G H → i < items.length → J.go i H
  stop : ∀ i H, Same G H → items.length ≤ i → J.stop i H
  yld : ∀ i H x H' Gc, Same G Gc → Same Gc H → i < items.length → J.yld i H x H' → ∃ d G2, items[i]? = some d ∧ Stp Gc H G2 H' ∧ Rep K G2 d x
def onI (K : PySem.W.Frag) (C : Cc) (σ : L2.St) (G H : Hp) (r : R (List D)) (P : List D → It → Hp → Hp → Prop) : Prop := match r with
  | .ok items => ∀ J G' H', Stp G H G' H' → ItOk K J G' items → P items J G' H'
  | .exc e => onX K C σ G H e
  | .stk => False
def liftI (K : PySem.W.Frag) (C : Cc) (f : As) : TI := fun σ H R => ∃ δ G, RE K C σ δ G H ∧ onI K C σ G H (f δ) fun _ J _ H' => R J H'
abbrev SI (X : Cx) (C : Cc) (tg e : Expr) (f : As) : Prop := PI X tg e (liftI X.K C f)
def forD (p : Pt) (body : S) : List D → Sl → RS
  | [], δ => .nx δ
  | d :: ds, δ => match bindP p d δ with
    | none => .stk
    | some δ1 => match body δ1 with
      | .nx δ2 => forD p body ds δ2
      | .ct δ2 => forD p body ds δ2
      | .bk δ2 => .nx δ2
      | r => r
def sFor (it : As) (p : Pt) (body : S) : S := fun δ => sBind (it δ) δ fun items => forD p body items δ
section
variable {X : Cx} {C : Cc} {pos : Pos} {tg iter : Expr}
theorem ss_for {body : List Stmt} {f : As} {p : Pt} {fb : S} (hp : PassesOwn (model X.prog X.w) X.A X.env X.xe) (hc : X.calm = true) (hi : SI X C tg iter f) (hg : SG X C tg p) (hb : SSs X C body fb)
    (hs : ∀ x, foldedSetIterable iter X.env x = pure x := by intro _; rfl) : SS X C (.For tg iter body [] pos) (sFor f p fb) := ps_weak (ps_for hp hc hi hg hb hs) fun Dn σ H ⟨δ, G, re, h⟩ => by
  refine ⟨δ, G, re, ?_⟩
  unfold sFor at h
  cases e : f δ with
  | stk => rw [e] at h; exact h.elim
  | exc ex => rw [e] at h; exact onX_of re h
  | ok items =>
    rw [e] at h
    intro J G1 H1 s1 ok
    have h0 : onS X.K C G (forD p fb items δ) Dn := h
    refine ⟨fun i m σ H => m = items.length - i ∧ i ≤ items.length ∧ ∃ δ G2, RE X.K C σ δ G2 H ∧ Same G1 G2 ∧ onS X.K C G2 (forD p fb (items.drop i) δ) Dn, ⟨items.length, by simp, Nat.zero_le _, δ, G1, re.step s1, Same.refl _, onS_same s1.g h0⟩, ?_⟩
    rintro i m σ2 H2 ⟨rfl, hi, δ2, G2, re2, sg, q⟩
    by_cases hlt : i < items.length
    · refine .inr ⟨ok.go i H2 (sg.trans re2.sub) hlt, fun σ H => ∃ δ G3, RE X.K C σ δ G3 H ∧ Same G1 G3 ∧ onS X.K C G3 (forD p fb (items.drop (i + 1)) δ) Dn, fun σ' H' n => ⟨items.length - (i + 1), by omega, rfl, hlt, n⟩, fun x H' y => ?_⟩
      obtain ⟨d, G3, ed, s3, r3⟩ := ok.yld i H2 x H' G2 sg re2.sub hlt y
      have ed2 : items.drop i = d :: items.drop (i + 1) := by
        rw [List.drop_eq_getElem_cons hlt]
        rw [List.getElem?_eq_getElem hlt] at ed
        rw [Option.some.inj ed]
      rw [ed2] at q
      simp only [forD] at q
      cases eb : bindP p d δ2 with
      | none => rw [eb] at q; exact q.elim
      | some δ3 =>
        rw [eb] at q
        refine ⟨d, δ2, G3, δ3, re2.step s3, r3, eb, fun σ4 re4 _ => ⟨δ3, G3, re4, ?_⟩⟩
        simp only at q
        cases ef : fb δ3 with
        | nx δ4 => rw [ef] at q; exact fun σ' G' H'' re' s' => ⟨δ4, G', re', (sg.trans s3.g).trans s', onS_same (s3.g.trans s') q⟩
        | ct δ4 => rw [ef] at q; exact fun σ' G' H'' re' s' => ⟨δ4, G', re', (sg.trans s3.g).trans s', onS_same (s3.g.trans s') q⟩
        | bk δ4 => rw [ef] at q; exact fun σ' G' H'' re' s' => q σ' G' H'' re' (s3.g.trans s')
        | rt d => rw [ef] at q; exact q
        | exc e4 δ4 => rw [ef] at q; exact fun cls dd σ' G' H'' re' s' rx => q cls dd σ' G' H'' re' (s3.g.trans s') rx
        | stk => rw [ef] at q; exact q
    · have ei : i = items.length := by omega
      subst ei
      rw [List.drop_length] at q
      exact .inl ⟨ok.stop _ H2 (sg.trans re2.sub) (Nat.le_refl _), q σ2 G2 H2 re2 (Same.refl _)⟩

/-! ### what is walked -/
theorem itOk_list {K : PySem.W.Frag} {G : Hp} {a : Addr} {vs : List V} {ds : List D} (h : SqL K G a vs) (r : RepL K G ds vs) : ItOk K (Itl K a) G ds where
  go := fun i H s hi => by
    obtain ⟨v, e, _⟩ := r.get (List.getElem?_eq_getElem hi)
    exact ⟨vs, v, s.seq h, e⟩
  stop := fun i H s hi => ⟨vs, s.seq h, by rw [← r.length]; exact hi⟩
  yld := fun i H x H' Gc s1 s2 hi y => by
    obtain ⟨v, e, rv⟩ := r.get (List.getElem?_eq_getElem hi)
    obtain ⟨rfl, y2⟩ := y
    have z := y2 vs ((s1.trans s2).seq h)
    rw [e] at z
    cases z
    exact ⟨_, Gc, List.getElem?_eq_getElem hi, Stp.refl s2, rv.mono s1⟩
theorem itOk_tup {K : PySem.W.Frag} {G : Hp} {a : Addr} {vs : List V} {ds : List D} (h : SqT K G a vs) (r : RepL K G ds vs) : ItOk K (Itt K a) G ds where
  go := fun i H s hi => by
    obtain ⟨v, e, _⟩ := r.get (List.getElem?_eq_getElem hi)
    exact ⟨vs, v, sqt_mono s h, e⟩
  stop := fun i H s hi => ⟨vs, sqt_mono s h, by rw [← r.length]; exact hi⟩
  yld := fun i H x H' Gc s1 s2 hi y => by
    obtain ⟨v, e, rv⟩ := r.get (List.getElem?_eq_getElem hi)
    obtain ⟨rfl, y2⟩ := y
    have z := y2 vs (sqt_mono (s1.trans s2) h)
    rw [e] at z
    cases z
    exact ⟨_, Gc, List.getElem?_eq_getElem hi, Stp.refl s2, rv.mono s1⟩
/-- a text's signs -/
def signs (x : Str) : List D := x.cps.toList.map fun c => .str ⟨#[c]⟩
theorem itOk_str {K : PySem.W.Frag} {G : Hp} {x : Str} : ItOk K (Its x) G (signs x) where
  go := fun i H s hi => by show i < x.cps.size; simpa [signs] using hi
  stop := fun i H s hi => by show x.cps.size ≤ i; simpa [signs] using hi
  yld := fun i H v H' Gc s1 s2 hi y => by
    obtain ⟨rfl, c, e, rfl⟩ := y
    refine ⟨.str ⟨#[c]⟩, Gc, ?_, Stp.refl s2, .str _⟩
    simp [signs, e]
/-- the things of a list, a tuple, a text -/
def iSeq (f : E) : As := fun δ => (f δ).bind fun d => match d with
  | .lst xs => .ok xs
  | .tup xs => .ok xs
  | .str x => .ok (signs x)
  | _ => .stk
theorem si_seq {e : Expr} {f : E} (he : SE X C e f) : SI X C tg e (iSeq f) := by
  refine ⟨fun pins s σ H R I ⟨δ, G, re, h⟩ => ?_⟩
  unfold iSeq at h
  have triv : ∀ (P : D → V → Hp → Hp → Prop), (∀ d v G' H', Stp G H G' H' → Rep X.K G' d v → f δ = .ok d → P d v G' H') → (∀ e, f δ = .exc e → onX X.K C σ G H e) → f δ ≠ .stk → onR X.K C σ G H (f δ) P := fun P h1 h2 h3 => by
    cases q : f δ with
    | ok d => exact fun v G' H' s r => h1 d v G' H' s r q
    | exc e => exact h2 e q
    | stk => exact absurd q h3
  cases q : f δ with
  | stk => rw [q] at h; exact h.elim
  | exc e => exact (pi_list he).run pins s σ H R I ⟨δ, G, re, triv _ (fun d v G' H' _ _ z => by rw [q] at z; exact nomatch z) (fun e2 z => by rw [q] at z h; cases z; exact h) (by rw [q]; exact fun z => nomatch z)⟩
  | ok d =>
    rw [q] at h
    cases d with
    | lst xs => exact (pi_list he).run pins s σ H R I ⟨δ, G, re, triv _ (fun d v G' H' s' r z => by
        rw [q] at z; cases z
        cases r with
        | @lst a vs _ p rl => exact ⟨a, rfl, ⟨vs, s'.sub.seq p⟩, h _ G' H' s' (itOk_list p rl)⟩) (fun e2 z => by rw [q] at z; exact nomatch z) (by rw [q]; exact fun z => nomatch z)⟩
    | tup xs => exact (pi_tup he).run pins s σ H R I ⟨δ, G, re, triv _ (fun d v G' H' s' r z => by
        rw [q] at z; cases z
        cases r with
        | @tup a vs _ p rl => exact ⟨a, rfl, ⟨vs, sqt_mono s'.sub p⟩, h _ G' H' s' (itOk_tup p rl)⟩) (fun e2 z => by rw [q] at z; exact nomatch z) (by rw [q]; exact fun z => nomatch z)⟩
    | str x => exact (pi_str he).run pins s σ H R I ⟨δ, G, re, triv _ (fun d v G' H' s' r z => by
        rw [q] at z; cases z
        cases r
        exact ⟨x, rfl, h _ G' H' s' itOk_str⟩) (fun e2 z => by rw [q] at z; exact nomatch z) (by rw [q]; exact fun z => nomatch z)⟩
    | non => exact h.elim
    | bl b => exact h.elim
    | int b => exact h.elim
    | fn b => exact h.elim
    | dct p l => exact h.elim
/-- the whole numbers lo, lo + 1, .. -/
def rngD (lo : Int) (n : Nat) : List D := (List.range n).map fun (i : Nat) => .int (lo + (i : Int))
theorem ints_get {lo : Int} {n i : Nat} (h : i < n) : (rngD lo n)[i]? = some (.int (lo + (i : Int))) := by simp [rngD, h]
theorem itOk_rng {K : PySem.W.Frag} {G : Hp} {lo : Int} {n : Nat} : ItOk K (Itr lo n) G (rngD lo n) where
  go := fun i H s hi => by show i < n; simpa [rngD] using hi
  stop := fun i H s hi => by show n ≤ i; simpa [rngD] using hi
  yld := fun i H v H' Gc s1 s2 hi y => by
    obtain ⟨rfl, rfl⟩ := y
    exact ⟨_, Gc, ints_get (by simpa [rngD] using hi), Stp.refl s2, .int _⟩
def iRange1 (a : As) : As := fun δ => (a δ).bind fun ds => match ds with
  | [.int j] => if -(2 ^ 62) ≤ j ∧ j < 2 ^ 62 then .ok (rngD 0 j.toNat) else .stk
  | _ => .stk
def iRange2 (a : As) : As := fun δ => (a δ).bind fun ds => match ds with
  | [.int i, .int j] => if -(2 ^ 62) ≤ i ∧ i < 2 ^ 62 ∧ -(2 ^ 62) ≤ j ∧ j < 2 ^ 62 then .ok (rngD i (j - i).toNat) else .stk
  | _ => .stk
theorem onA_AI {K : PySem.W.Frag} {σ : L2.St} {G H : Hp} {r : R (List D)} {k : List D → R (List D)} {P : List D → It → Hp → Hp → Prop} (h : onI K C σ G H (r.bind k) P) : onA K C σ G H r fun ds _ G1 H1 => onI K C σ G1 H1 (k ds) P := by
  cases r with
  | ok d =>
    intro v G1 H1 s q
    have h' : onI K C σ G H (k d) P := h
    show onI K C σ G1 H1 (k d) P
    cases e : k d with
    | ok d2 => rw [e] at h'; exact fun J G2 H2 s2 q2 => h' J G2 H2 (s.trans s2) q2
    | exc e2 => rw [e] at h'; exact onX_step h' s
    | stk => rw [e] at h'; exact h'
  | exc e => exact h
  | stk => exact h
theorem pi_weak {X : Cx} {tg e : Expr} {t t' : TI} (h : PI X tg e t) (w : ∀ σ H Q, t' σ H Q → t σ H Q) : PI X tg e t' := ⟨fun pins s σ H Q I z => h.run pins s σ H Q I (w σ H Q z)⟩
theorem si_range1 {a : Expr} {f : As} {p pos : Pos} (hg : Gl X "range") (hm : X.mg "range" = none) (ha : SA X C [a] f) (hs : starEach [a] X.env = [(false, eval a X.env)] := by rfl) : SI X C tg (.Call (.Name "range" p) [a] [] pos) (iRange1 f) :=
  pi_weak (pi_range1 hg hm ha hs) fun σ H R ⟨δ, G, re, h⟩ => ⟨δ, G, re, onA_mono (onA_AI h) fun ds vs G1 H1 s1 r1 h1 => by
    split at h1
    · rename_i j
      cases r1 with
      | cons r2 r3 =>
        cases r2; cases r3
        split at h1
        · rename_i hz
          refine ⟨j, rfl, hz.1, hz.2, h1 _ G1 H1 (Stp.refl s1.sub) itOk_rng⟩
        · exact h1.elim
    · exact h1.elim⟩
theorem si_range2 {a b : Expr} {f : As} {p pos : Pos} (hg : Gl X "range") (hm : X.mg "range" = none) (ha : SA X C [a, b] f) (hs : starEach [a, b] X.env = [(false, eval a X.env), (false, eval b X.env)] := by rfl) (hs2 : starEach [b] X.env = [(false, eval b X.env)] := by rfl) :
    SI X C tg (.Call (.Name "range" p) [a, b] [] pos) (iRange2 f) :=
  pi_weak (pi_range2 hg hm ha hs hs2) fun σ H R ⟨δ, G, re, h⟩ => ⟨δ, G, re, onA_mono (onA_AI h) fun ds vs G1 H1 s1 r1 h1 => by
    split at h1
    · rename_i i j
      cases r1 with
      | cons r2 r3 =>
        cases r3 with
        | cons r3 r4 =>
          cases r2; cases r3; cases r4
          split at h1
          · rename_i hz
            refine ⟨i, j, rfl, hz, h1 _ G1 H1 (Stp.refl s1.sub) itOk_rng⟩
          · exact h1.elim
    · exact h1.elim⟩
theorem itOk_enum {K : PySem.W.Frag} {G : Hp} {a : Addr} {vs : List V} {ds : List D} (h : SqL K G a vs) (r : RepL K G ds vs) : ItOk K (Ite K a) G (ds.zipIdx.map fun p => .tup [.int (p.2 : Nat), p.1]) where
  go := fun i H s hi => by
    have hi' : i < ds.length := by simpa using hi
    obtain ⟨v, e, _⟩ := r.get (List.getElem?_eq_getElem hi')
    exact ⟨vs, v, s.seq h, e⟩
  stop := fun i H s hi => ⟨vs, s.seq h, by rw [← r.length]; simpa using hi⟩
  yld := fun i H x H' Gc s1 s2 hi y => by
    have hi' : i < ds.length := by simpa using hi
    obtain ⟨v, e, rv⟩ := r.get (List.getElem?_eq_getElem hi')
    obtain ⟨T, x0, rfl, hT, rfl, y2⟩ := y
    have z := y2 vs ((s1.trans s2).seq h)
    rw [e] at z
    cases z
    refine ⟨.tup [.int (i : Nat), ds[i]], upd Gc T (.tup [.int (i : Nat), v]), ?_, Stp.new s2 hT _, .tup (SqT.of upd_same) (.cons (.int _) (.cons ?_ .nil))⟩
    · simp [hi']
    · exact (rv.mono s1).mono (same_new (s2.free hT) _)
def iEnumD (a : As) : As := fun δ => (a δ).bind fun ds => match ds with
  | [.lst xs] => .ok (xs.zipIdx.map fun p => .tup [.int (p.2 : Nat), p.1])
  | _ => .stk
theorem si_enum {e : Expr} {f : As} {p pos tpos : Pos} {elts : List Expr} {kk : Nat} (hg : Gl X "enumerate") (hm : X.mg "enumerate" = none) (ha : SA X C [e] f) (hs : starEach [e] X.env = [(false, eval e X.env)] := by rfl) :
    SI X C (.Tuple elts kk tpos) (.Call (.Name "enumerate" p) [e] [] pos) (iEnumD f) :=
  pi_weak (pi_enum hg hm ha hs) fun σ H R ⟨δ, G, re, h⟩ => ⟨δ, G, re, onA_mono (onA_AI h) fun ds vs G1 H1 s1 r1 h1 => by
    split at h1
    · cases r1 with
      | cons r2 r3 =>
        cases r3
        cases r2 with
        | @lst a us _ pp q => exact ⟨a, us, rfl, s1.sub.seq pp, h1 _ G1 H1 (Stp.refl s1.sub) (itOk_enum pp q)⟩
    · exact h1.elim⟩
theorem itOk_rev {K : PySem.W.Frag} {G : Hp} {a : Addr} {vs : List V} {ds : List D} (h : SqL K G a vs) (r : RepL K G ds vs) : ItOk K (Itv K a vs.length) G ds.reverse where
  go := fun i H s hi => by
    have hi' : i < ds.length := by simpa using hi
    have hl := r.length
    obtain ⟨v, e, _⟩ := r.get (List.getElem?_eq_getElem (show vs.length - 1 - i < ds.length by omega))
    exact ⟨by omega, vs, v, s.seq h, e⟩
  stop := fun i H s hi => by
    have hl := r.length
    have : ds.length ≤ i := by simpa using hi
    show vs.length ≤ i
    omega
  yld := fun i H x H' Gc s1 s2 hi y => by
    have hi' : i < ds.length := by simpa using hi
    have hl := r.length
    have hi2 : vs.length - 1 - i < ds.length := by omega
    obtain ⟨v, e, rv⟩ := r.get (List.getElem?_eq_getElem hi2)
    obtain ⟨rfl, y2⟩ := y
    have z := y2 vs ((s1.trans s2).seq h)
    rw [e] at z
    cases z
    refine ⟨_, Gc, ?_, Stp.refl s2, rv.mono s1⟩
    rw [List.getElem?_reverse hi', List.getElem?_eq_getElem (by omega)]
    congr 1
    exact getElem_congr rfl (by omega) _
def iRevD (a : As) : As := fun δ => (a δ).bind fun ds => match ds with
  | [.lst xs] => .ok xs.reverse
  | _ => .stk
theorem si_rev {e : Expr} {f : As} {p pos : Pos} (hg : Gl X "reversed") (hm : X.mg "reversed" = none) (ha : SA X C [e] f) (hs : starEach [e] X.env = [(false, eval e X.env)] := by rfl) : SI X C tg (.Call (.Name "reversed" p) [e] [] pos) (iRevD f) :=
  pi_weak (pi_reversed hg hm ha hs) fun σ H R ⟨δ, G, re, h⟩ => ⟨δ, G, re, onA_mono (onA_AI h) fun ds vs G1 H1 s1 r1 h1 => by
    split at h1
    · cases r1 with
      | cons r2 r3 =>
        cases r3
        cases r2 with
        | @lst a us _ pp q => exact ⟨a, us, rfl, s1.sub.seq pp, h1 _ G1 H1 (Stp.refl s1.sub) (itOk_rev pp q)⟩
    · exact h1.elim⟩
end

/-! ### while -/
def whileD (c : T) (body : S) : Nat → Sl → RS
  | 0, _ => .stk
  | n + 1, δ => match c δ with
    | .ok true => match body δ with
      | .nx δ2 => whileD c body n δ2
      | .ct δ2 => whileD c body n δ2
      | .bk δ2 => .nx δ2
      | r => r
    | .ok false => .nx δ
    | .exc e => .exc e δ
    | .stk => .stk
section
variable {X : Cx} {C : Cc} {pos : Pos}
theorem ss_while (n : Nat) {c : Expr} {body : List Stmt} {t : T} {fb : S} (hp : PassesOwn (model X.prog X.w) X.A X.env X.xe) (hc : ST X C c t) (hb : SSs X C body fb) : SS X C (.While c body [] pos) (whileD t fb n) :=
  ps_weak (ps_while hp hc hb) fun Dn σ H ⟨δ, G, re, h⟩ => by
    refine ⟨fun m σ H => ∃ δ G, RE X.K C σ δ G H ∧ onS X.K C G (whileD t fb m δ) Dn, ⟨n, δ, G, re, h⟩, ?_⟩
    rintro m σ2 H2 ⟨δ2, G2, re2, q⟩
    cases m with
    | zero => exact q.elim
    | succ m =>
      simp only [whileD] at q
      refine ⟨δ2, G2, re2, ?_⟩
      cases e : t δ2 with
      | stk => rw [e] at q; exact q.elim
      | exc ex => rw [e] at q; exact onX_of re2 q
      | ok b =>
        rw [e] at q
        intro G3 H3 s3
        cases b with
        | false =>
          rw [if_neg Bool.false_ne_true]
          exact q σ2 G3 H3 (re2.step s3) s3.g
        | true =>
          rw [if_pos rfl]
          refine ⟨fun σ H => ∃ δ G, RE X.K C σ δ G H ∧ onS X.K C G (whileD t fb m δ) Dn, fun σ' H' z => ⟨m, Nat.lt_succ_self _, z⟩, δ2, G3, re2.step s3, ?_⟩
          simp only at q
          cases ef : fb δ2 with
          | nx δ4 => rw [ef] at q; exact fun σ' G' H'' re' s' => ⟨δ4, G', re', onS_same (s3.g.trans s') q⟩
          | ct δ4 => rw [ef] at q; exact fun σ' G' H'' re' s' => ⟨δ4, G', re', onS_same (s3.g.trans s') q⟩
          | bk δ4 => rw [ef] at q; exact fun σ' G' H'' re' s' => q σ' G' H'' re' (s3.g.trans s')
          | rt d => rw [ef] at q; exact q
          | exc e4 δ4 => rw [ef] at q; exact fun cls dd σ' G' H'' re' s' rx => q cls dd σ' G' H'' re' (s3.g.trans s') rx
          | stk => rw [ef] at q; exact q
end
end Fs

/-! F6: defs by their function over data, calls, comprehensions, lists of the frame's own. -/
namespace Fs
open PySem L2

/-- a def's promise: what its function says of the arguments' data -/
def spD (K : PySem.W.Frag) (ct : String → Addr) (n : Nat) (F : List D → R D) : Sp := fun vs H Q E => ∃ G ds, ds.length = n ∧ Same G H ∧ RepL K G ds vs ∧ match F ds with
  | .ok d => ∀ v G' H', Stp G H G' H' → Rep K G' d v → Q v H'
  | .exc e => ∀ cls dd G' H', Stp G H G' H' → RepX K ct G' H' e cls dd → E cls dd H'
  | .stk => False
/-- a body as a function of the arguments: N names, n of them parameters -/
def runD (N : Nat) (body : S) (ds : List D) : R D := match body (ds.map .v ++ List.replicate (N - ds.length) .un) with
  | .nx _ => .ok .non
  | .rt d => .ok d
  | .exc e _ => .exc e
  | _ => .stk
theorem re_start {K : PySem.W.Frag} {C : Cc} {G H : Hp} {ds : List D} {vs : List V} {N : List Str} (st : Stp C.G0 C.H0 G H) (r : RepL K G ds vs) (hn : ds.length ≤ N.length) : RE K C (L2.start N vs) (ds.map .v ++ List.replicate (N.length - ds.length) .un) G H := by
  have hl := r.length
  refine ⟨st, by simp [L2.start]; omega, fun i s hs => ?_, fun i j s t p hij hs ht os ot => ?_⟩
  · unfold L2.start
    by_cases h : i < ds.length
    · rw [List.getElem?_append_left (by simpa using h)] at hs
      rw [List.getElem?_append_left (by simp; omega)]
      obtain ⟨v, e1, r1⟩ := r.get (List.getElem?_eq_getElem h)
      rw [List.getElem?_map, List.getElem?_eq_getElem h] at hs
      rw [List.getElem?_map, e1]
      cases hs
      exact ⟨v, rfl, r1⟩
    · rw [List.getElem?_append_right (by simpa using h)] at hs
      rw [List.getElem?_replicate] at hs
      split at hs
      · cases hs
        trivial
      · exact nomatch hs
  · exfalso
    by_cases h : i < ds.length
    · rw [List.getElem?_append_left (by simpa using h), List.getElem?_map, List.getElem?_eq_getElem h] at hs
      cases hs
      cases os
    · rw [List.getElem?_append_right (by simpa using h), List.getElem?_replicate] at hs
      split at hs
      · cases hs
        cases os
      · exact nomatch hs
section
variable {P : Program} {w : World} {K : PySem.W.Frag} {mg : Str → Option Value} {base : Heap} {ct : String → Addr}
/-- a def of the text keeps the promise of its body's function -/
theorem fn_ok {x qual : Str} {st : Stmt} {f : Addr} {fd : FuncData} {N ps : List Str} {k : Nat} {body : S} (F : L2.Fun K x qual st f fd) (sc : FnScope N ps (defScope st)) (hn : ps.length ≤ N.length)
    (hb : ∀ (cdv : Value) (A : Around) (outer : List Env) (s : Shared) (H G : Hp) (E : XK), Room k (A.deeper (PyProof.Rows.envOfC qual (defScope st) s.heap.objs.size f cdv)) →
      SSs (cxOf (L2.CX P w) P w K mg base N qual (defScope st) f cdv A outer s H E) ⟨G, H, ct, fun cls d _ H => E cls d H⟩ (defBody st) body) :
    FnOk P w K mg base (L2.CX P w) (k + 1) f fd ps (spD K ct ps.length (runD N.length body)) := by
  refine F.okX sc (fun vs H Q E ⟨G, ds, l, s, r, _⟩ => by rw [← l, r.length]) (fun cdv A outer s H vs Q E hr ⟨G, ds, l, sub, r, h⟩ => ⟨_, hb cdv A outer s H G E hr, ?_⟩)
  have rs : RE K ⟨G, H, ct, fun cls d _ H => E cls d H⟩ (L2.start N vs) (ds.map Slot.v ++ List.replicate (N.length - ds.length) Slot.un) G H := re_start (Stp.refl sub) r (by omega)
  refine ⟨ds.map Slot.v ++ List.replicate (N.length - ds.length) Slot.un, G, rs, ?_⟩
  unfold runD at h
  show onS K _ G (body (ds.map .v ++ List.replicate (N.length - ds.length) .un)) _
  cases e : body (ds.map .v ++ List.replicate (N.length - ds.length) .un) with
  | nx δ => rw [e] at h; exact fun σ' G' H' re _ => h .non G' H' re.st .non
  | rt d => rw [e] at h; exact h
  | exc e2 δ => rw [e] at h; exact fun cls dd σ' G' H' re _ rx => h cls dd G' H' re.st rx
  | bk δ => rw [e] at h; exact h.elim
  | ct δ => rw [e] at h; exact h.elim
  | stk => rw [e] at h; exact h.elim
/-- a def of no level: nothing is promised -/
theorem fn_zero {f : Addr} {fd : FuncData} {ps : List Str} : FnOk P w K mg base (L2.CX P w) 0 f fd ps (spD K ct ps.length fun _ => .stk) :=
  ⟨fun vs H Q E ⟨G, ds, l, s, r, h⟩ => h.elim, fun A outer s H args us vs Q E _ _ _ _ ⟨G, ds, l, s, r, h⟩ => h.elim⟩
end

/-! ### calls -/
def eCall (F : List D → R D) (a : As) : E := fun δ => (a δ).bind F
section
variable {X : Cx} {C : Cc} {pos p : Pos} {x : Str} {e : Expr} {es : List Expr} {fa : As} {k n : Nat} {f : Addr} {fd : FuncData} {ps : List Str} {F : List D → R D}
theorem onA_sp {K : PySem.W.Frag} {σ : L2.St} {G H : Hp} {δ : Sl} {Q : VK} (hn : ∀ ds, fa δ = .ok ds → ds.length = n) (h : onR K C σ G H ((fa δ).bind F) fun _ v _ H' => Q v H') :
    onA K C σ G H (fa δ) fun ds vs _ H1 => spD K C.ct n F vs H1 Q (WE C.W σ) := by
  have h2 := onA_AR h
  cases q : fa δ with
  | stk => rw [q] at h2; exact h2.elim
  | exc e => rw [q] at h2; exact h2
  | ok ds =>
    rw [q] at h2
    intro vs G1 H1 s1 r1
    refine ⟨G1, ds, hn ds q, s1.sub, r1, ?_⟩
    have h3 : onR K C σ G1 H1 (F ds) (fun _ v _ H' => Q v H') := h2 vs G1 H1 s1 r1
    cases q2 : F ds with
    | ok d => rw [q2] at h3; exact h3
    | exc e => rw [q2] at h3; exact h3
    | stk => rw [q2] at h3; exact h3
/-- an argument list gives as many as it has -/
def LenA (fa : As) (n : Nat) : Prop := ∀ δ ds, fa δ = .ok ds → ds.length = n
theorem lenA_nil : LenA aNil 0 := fun δ ds h => by cases h; rfl
theorem lenA_cons {f : E} {r : As} {n : Nat} (h : LenA r n) : LenA (aCons f r) (n + 1) := fun δ ds e => by
  unfold aCons at e
  cases q : f δ with
  | stk => rw [q] at e; exact nomatch e
  | exc e2 => rw [q] at e; exact nomatch e
  | ok d =>
    rw [q] at e
    cases q2 : r δ with
    | stk => simp only [R.bind, q2] at e; exact nomatch e
    | exc e2 => simp only [R.bind, q2] at e; exact nomatch e
    | ok xs =>
      simp only [R.bind, q2, R.ok.injEq] at e
      subst e
      simp [h δ xs q2]
theorem se_call (hF : FnOk X.prog X.w X.K X.mg X.base (L2.CX X.prog X.w) k f fd ps (spD X.K C.ct n F)) (hr : Room k X.A) (tk : Takes X C.W) (hg : Gl X x) (hm : X.mg x = some (.ref f)) (hk : PySem.W.keepIn X.K (.ref f) = true) (hb : Binds X.K fd ps [])
    (ha : SA X C (e :: es) fa) (hl : LenA fa n) (hdb : (x == ("__debug__" : Str)) = false := by decide) (he : starEach (e :: es) X.env = (false, eval e X.env) :: starEach es X.env := by rfl) (hpl : (backTo pos (starEach es X.env)).any (·.1) = false := by rfl) :
    SE X C (.Call (.Name x p) (e :: es) [] pos) (eCall F fa) :=
  pe_weak (pe_callS hF hr hg hm hk hb (fun σ => passAt tk σ) ha hdb he hpl) fun σ H Q ⟨δ, G, re, h⟩ => ⟨δ, G, re, onA_sp (fun ds q => hl δ ds q) h⟩
end

/-! ### lists that are the frame's own -/
/-- an expression that gives a new list -/
def onF (K : PySem.W.Frag) (C : Cc) (σ : L2.St) (G H : Hp) (r : R (List D)) (P : List D → Addr → Hp → Hp → Prop) : Prop := match r with
  | .ok xs => ∀ p vs G' H', Stp G H G' H' → H p = none → G' p = none → H' p = some (.lst vs) → RepL K G' xs vs → P xs p G' H'
  | .exc e => onX K C σ G H e
  | .stk => False
abbrev Fr := Sl → R (List D)
def liftF (K : PySem.W.Frag) (C : Cc) (f : Fr) : TE := fun σ H Q => ∃ δ G, RE K C σ δ G H ∧ onF K C σ G H (f δ) fun _ p _ H' => Q (.ref p) H'
abbrev SF (X : Cx) (C : Cc) (e : Expr) (f : Fr) : Prop := PE X e (liftF X.K C f)
def eFz (f : Fr) : E := fun δ => (f δ).bind fun xs => .ok (.lst xs)
theorem lift_fz {K : PySem.W.Frag} {C : Cc} {f : Fr} {σ : L2.St} {H : Hp} {Q : VK} (h : liftE K C (eFz f) σ H Q) : liftF K C f σ H Q := by
  obtain ⟨δ, G, re, h⟩ := h
  refine ⟨δ, G, re, ?_⟩
  unfold eFz at h
  cases q : f δ with
  | stk => rw [q] at h; exact h
  | exc e => rw [q] at h; exact h
  | ok xs =>
    rw [q] at h
    intro p vs G' H' s hp gp hh r
    have sg := same_new gp (.lst vs)
    refine h (.ref p) (upd G' p (.lst vs)) H' ⟨s.g.trans sg, s.h, fun a o ha => ?_, fun a ha => ?_⟩ (.lst (SqL.of upd_same) (r.mono sg))
    · by_cases e : a = p
      · subst e
        rw [upd_same] at ha
        cases ha
        exact hh
      · rw [upd_ne e] at ha
        exact s.sub _ _ ha
    · by_cases e : a = p
      · exact .inr (e ▸ hp)
      · rw [upd_ne e] at ha
        exact s.nw a ha
section
variable {X : Cx} {C : Cc} {pos : Pos} {e : Expr} {es : List Expr} {f : Fr} {r : As}
theorem SF.se (h : SF X C e f) : SE X C e (eFz f) := pe_weak h fun σ H Q z => lift_fz z
def fLst (r : As) : Fr := fun δ => (r δ).bind fun xs => if xs.length ≤ sizeLine then .ok xs else .stk
theorem onA_AF {K : PySem.W.Frag} {σ : L2.St} {G H : Hp} {r : R (List D)} {k : List D → R (List D)} {P : List D → Addr → Hp → Hp → Prop} (h : onF K C σ G H (r.bind k) P) : onA K C σ G H r fun ds _ G1 H1 => onF K C σ G1 H1 (k ds) P := by
  cases r with
  | ok d =>
    intro v G1 H1 s q
    have h' : onF K C σ G H (k d) P := h
    show onF K C σ G1 H1 (k d) P
    cases e : k d with
    | ok d2 => rw [e] at h'; exact fun p vs G2 H2 s2 hp gp hh q2 => h' p vs G2 H2 (s.trans s2) (s.h.free hp) gp hh q2
    | exc e2 => rw [e] at h'; exact onX_step h' s
    | stk => rw [e] at h'; exact h'
  | exc e => exact h
  | stk => exact h
theorem onR_RF {K : PySem.W.Frag} {σ : L2.St} {G H : Hp} {r : R D} {k : D → R (List D)} {P : List D → Addr → Hp → Hp → Prop} (h : onF K C σ G H (r.bind k) P) : onR K C σ G H r fun ds _ G1 H1 => onF K C σ G1 H1 (k ds) P := by
  cases r with
  | ok d =>
    intro v G1 H1 s q
    have h' : onF K C σ G H (k d) P := h
    show onF K C σ G1 H1 (k d) P
    cases e : k d with
    | ok d2 => rw [e] at h'; exact fun p vs G2 H2 s2 hp gp hh q2 => h' p vs G2 H2 (s.trans s2) (s.h.free hp) gp hh q2
    | exc e2 => rw [e] at h'; exact onX_step h' s
    | stk => rw [e] at h'; exact h'
  | exc e => exact h
  | stk => exact h
theorem sf_lst (h : SA X C es r) : SF X C (.List es pos) (fLst r) := pe_weak (pe_lst h) fun σ H Q ⟨δ, G, re, h⟩ =>
  ⟨δ, G, re, onA_mono (onA_AF h) fun ds vs G1 H1 s1 r1 h1 => by
    have hl := r1.length
    by_cases z : ds.length ≤ sizeLine
    · rw [if_pos z] at h1
      exact ⟨by omega, fun p hp => h1 p vs G1 _ (Stp.newH s1.sub hp _) hp (s1.sub.free hp) upd_same r1⟩
    · rw [if_neg z] at h1
      exact h1.elim⟩
/-- list(x) -/
def fList (f : E) : Fr := fun δ => (f δ).bind fun d => match d with
  | .lst xs => .ok xs
  | .tup xs => .ok xs
  | _ => .stk
theorem sf_list {x : Str} {p : Pos} {a : Expr} {fa : E} (hx : x = "list") (hg : Gl X x) (hm : X.mg x = none) (ha : SE X C a fa) (hv : bootBuiltins x = some (.type "list")) (hn : x ≠ "__name__" := by decide) (hdb : (x == ("__debug__" : Str)) = false := by decide)
    (he : starEach [a] X.env = (false, eval a X.env) :: starEach [] X.env := by rfl) (hpl : (backTo pos (starEach [] X.env)).any (·.1) = false := by rfl) : SF X C (.Call (.Name x p) [a] [] pos) (fList fa) :=
  pe_weak (pe_callTy call_list_of hg hm hv (pa_cons ha pa_nil he) hn hdb he hpl) fun σ H Q ⟨δ, G, re, h⟩ =>
  ⟨δ, G, re, onR_mono (onR_RF h) fun d v G1 H1 s1 r1 h1 => by
    cases r1 with
    | @lst a vs ds p q => exact ⟨a, vs, rfl, .inl (s1.sub.seq p), fun c hc => h1 c vs G1 _ (Stp.newH s1.sub hc _) hc (s1.sub.free hc) upd_same q⟩
    | @tup a vs ds p q => exact ⟨a, vs, rfl, .inr (sqt_mono s1.sub p), fun c hc => h1 c vs G1 _ (Stp.newH s1.sub hc _) hc (s1.sub.free hc) upd_same q⟩
    | non => exact h1.elim
    | bl b => exact h1.elim
    | int b => exact h1.elim
    | str b => exact h1.elim
    | fn b => exact h1.elim
    | dct p l q => exact h1.elim⟩
/-- x = a new list, x's own from here on -/
def sOwn (i : Nat) (f : Fr) : S := fun δ => sBind (f δ) δ fun xs => .nx (δ.set i (.own xs))
theorem RE.setNew {K : PySem.W.Frag} {σ : L2.St} {δ : Sl} {G H G' H' : Hp} {xs : List D} {vs : List V} {p : Addr} (re : RE K C σ δ G H) (s : Stp G H G' H') (i : Nat) (hp : H p = none) (gp : G' p = none) (hh : H' p = some (.lst vs)) (r : RepL K G' xs vs) :
    RE K C (σ.set i (some (.ref p))) (δ.set i (.own xs)) G' H' := by
  refine (re.step s).setO i (re.st.h.free hp) gp hh r fun j t hj ht ot z => ?_
  cases t with
  | own ys =>
    obtain ⟨p2, vs2, e2, _, _, h2, _⟩ := re.ownd ht
    rw [z] at e2
    cases e2
    rw [hp] at h2
    exact nomatch h2
  | un => cases ot
  | v d => cases ot
theorem ss_own (i : Nat) {x : Str} {pos' : Pos} (he : SF X C e f) (hN : X.N.Nodup) (hi : X.N[i]? = some x := by rfl) (hx : Loc X.env.scope x := by first | exact Or.inl rfl | exact Or.inr rfl) (hs : swapsWith e (some (.Name x pos')) pos.line X.env = pure false := by rfl)
    (hf : X.fn x = true ∨ X.env.scope.names.lookup x = some .local := by first | exact Or.inr rfl | exact Or.inl rfl) : SS X C (.Assign [.Name x pos'] e pos) (sOwn i f) := ps_weak (ps_set hN hi hx he hs hf) fun Dn σ H ⟨δ, G, re, h⟩ => by
  refine ⟨δ, G, re, ?_⟩
  unfold sOwn at h
  cases q : f δ with
  | stk => rw [q] at h; exact h
  | exc e => rw [q] at h; exact onX_of re h
  | ok xs =>
    rw [q] at h
    intro p vs G' H' s hp gp hh r
    exact h _ G' H' (re.setNew s i hp gp hh r) s.g
/-- x.append(e) of the own list at x -/
def sApp (i : Nat) (f : E) : S := fun δ => match δ[i]? with
  | some (.own xs) => sBind (f δ) δ fun d => if xs.length < sizeLine then .nx (δ.set i (.own (xs ++ [d]))) else .stk
  | _ => .stk
theorem ss_app (i : Nat) {x : Str} {p1 p2 p3 : Pos} {a : Expr} {fa : E} (ha : SE X C a fa) (hN : X.N[i]? = some x := by rfl) (hv : Vis X.env.scope x := by first | exact Or.inl rfl | exact Or.inr (Or.inl rfl) | exact Or.inr (Or.inr rfl)) (hd : (x == ("__debug__" : Str)) = false := by decide)
    (hcd : (x == ("__classdict__" : Str)) = false := by decide) (hs : swapsWith (.Call (.Attribute (.Name x p1) "append" p2) [a] [] p3) none pos.line X.env = pure false := by rfl)
    (hbase : attributeBase (.Name x p1) "append" X.env (eval (.Name x p1) X.env) = eval (.Name x p1) X.env := by rfl)
    (hfew : ((backTo p3 (starEach [a] X.env)).all (fun x => !x.1) && (backToKw p3 (keywordEach [] X.env)).all (fun x => x.1.isSome)
      && decide ([a].length + ([] : List Keyword).length + (if ([] : List Keyword).isEmpty then 0 else 1) < 30)) = true := by rfl)
    (hline : (p2.endLine == p3.line) = true := by rfl) (hst : starEach [a] X.env = (false, eval a X.env) :: starEach [] X.env := by rfl) (hpl : (backTo p3 (starEach [] X.env)).any (·.1) = false := by rfl) :
    SS X C (.Expr (.Call (.Attribute (.Name x p1) "append" p2) [a] [] p3) pos) (sApp i fa) :=
  ps_weak (ps_expr (pe_bm PySem.F.plainAttrs_list PySem.F.slot_list_append PySem.F.type_list_append mt_append (pe_var hN hv hd hcd) (pa_cons ha pa_nil hst) hbase hfew hline hst hpl) hs) fun Dn σ H ⟨δ, G, re, h⟩ => by
    unfold sApp at h
    cases q : δ[i]? with
    | none => rw [q] at h; exact h.elim
    | some sl =>
      rw [q] at h
      cases sl with
      | un => exact h.elim
      | v d => exact h.elim
      | own xs =>
        obtain ⟨p, vs, e0, h0, g0, hh, r0⟩ := re.ownd q
        refine ⟨.ref p, e0, .inl ⟨rfl, vs, SqL.of hh⟩, δ, G, re, onR_mono (onS_R re h) fun d v G1 H1 s1 r1 h1 => ?_⟩
        split at h1
        · rename_i hz
          have hl := r0.length
          refine ⟨p, vs, v, rfl, rfl, s1.h _ _ hh, by omega, h1 σ G1 _ ((re.step s1).mutO i q e0 ((r0.mono s1.g).append (RepL.one r1))) (Same.refl _)⟩
        · exact h1.elim
/-- x.extend(e) of the own list at x -/
def sExt (i : Nat) (f : E) : S := fun δ => match δ[i]? with
  | some (.own xs) => sBind (f δ) δ fun d => match d with
    | .lst ys => if xs.length + ys.length ≤ sizeLine then .nx (δ.set i (.own (xs ++ ys))) else .stk
    | _ => .stk
  | _ => .stk
/-- x[i] = e of the own list at x -/
def sSetIx (i : Nat) (fi f : E) : S := fun δ => sBind (f δ) δ fun d => match δ[i]? with
  | some (.own xs) => sBind (fi δ) δ fun z => match z with
    | .int k => match ixN xs.length k with
      | some j => .nx (δ.set i (.own (xs.set j d)))
      | none => .stk
    | _ => .stk
  | _ => .stk
/-- the own list at x is frozen from here on -/
def sFrz (i : Nat) (f : S) : S := fun δ => match δ[i]? with
  | some (.own xs) => f (δ.set i (.v (.lst xs)))
  | _ => f δ
theorem lift_frz {K : PySem.W.Frag} {i : Nat} {g : S} {Dn : Ends} {σ : L2.St} {H : Hp} (h : liftS K C (sFrz i g) Dn σ H) : liftS K C g Dn σ H := by
  obtain ⟨δ, G, re, h⟩ := h
  unfold sFrz at h
  cases q : δ[i]? with
  | none => rw [q] at h; exact ⟨δ, G, re, h⟩
  | some sl =>
    rw [q] at h
    cases sl with
    | un => exact ⟨δ, G, re, h⟩
    | v d => exact ⟨δ, G, re, h⟩
    | own xs =>
      obtain ⟨p, vs, _, _, gp, _, re2⟩ := re.frz i q
      exact ⟨_, _, re2, onS_same (same_new gp _) h⟩
theorem ss_frz (i : Nat) {st : Stmt} {g : S} (h : SS X C st g) : SS X C st (sFrz i g) := ps_weak h fun Dn σ H z => lift_frz z
/-- a test that looks at the own list at x alone -/
def tBor (i : Nat) (f : T) : T := fun δ => match δ[i]? with
  | some (.own xs) => f (δ.set i (.v (.lst xs)))
  | _ => f δ
/-- data without lists -/
def noL : D → Bool
  | .lst _ => false
  | .tup xs => noLs xs
  | _ => true
where noLs : List D → Bool
  | [] => true
  | d :: ds => noL d && noLs ds
end
end Fs

/-! F7: list comprehensions. -/
namespace Fs
open PySem L2

def wipeD (δ : Sl) : List Nat → Sl
  | [] => δ
  | v :: vs => (wipeD δ vs).set v .un
theorem RE.setU {K : PySem.W.Frag} {C : Cc} {σ : L2.St} {δ : Sl} {G H : Hp} (r : RE K C σ δ G H) (i : Nat) (x : Option V) : RE K C (σ.set i x) (δ.set i .un) G H := by
  have nj : ∀ {j : Nat} {s : Slot}, (δ.set i Slot.un)[j]? = some s → s.isOwn = true → i ≠ j := fun {j s} hs os e => by
    subst e
    have hi : i < δ.length := by
      have := (List.getElem?_eq_some_iff.mp hs).1
      simpa using this
    rw [List.getElem?_set_self hi] at hs
    cases hs
    cases os
  refine ⟨r.st, by simp [r.len], fun j s hs => ?_, fun j k s t p hjk hs ht os ot => ?_⟩
  · by_cases e : i = j
    · subst e
      have hi : i < δ.length := by
        have := (List.getElem?_eq_some_iff.mp hs).1
        simpa using this
      rw [List.getElem?_set_self hi] at hs
      cases hs
      trivial
    · rw [List.getElem?_set_ne e] at hs
      rw [List.getElem?_set_ne e]
      exact r.sl j s hs
  · have e1 := nj hs os
    have e2 := nj ht ot
    rw [List.getElem?_set_ne e1] at hs
    rw [List.getElem?_set_ne e2] at ht
    rw [List.getElem?_set_ne e1, List.getElem?_set_ne e2]
    exact r.sep j k s t p hjk hs ht os ot
theorem RE.wipe {K : PySem.W.Frag} {C : Cc} {σ : L2.St} {δ : Sl} {G H : Hp} (r : RE K C σ δ G H) : ∀ vs : List Nat, RE K C (L2.wipe σ vs) (wipeD δ vs) G H
  | [] => r
  | v :: vs => (RE.wipe r vs).setU v none
theorem RE.wish {K : PySem.W.Frag} {C : Cc} {σ : L2.St} {δ : Sl} {G H : Hp} (r : RE K C σ δ G H) (W : WX) : RE K { C with W := W } σ δ G H := ⟨r.st, r.len, r.sl, r.sep⟩
theorem wipe_get (σ : L2.St) : ∀ (vs : List Nat) (j : Nat), (L2.wipe σ vs)[j]? = if j ∈ vs ∧ j < σ.length then some none else σ[j]?
  | [], j => by simp [L2.wipe]
  | v :: vs, j => by
    unfold L2.wipe
    by_cases e : v = j
    · subst e
      by_cases h : v < σ.length
      · rw [List.getElem?_set_self (by rw [wipe_length]; exact h), if_pos ⟨List.mem_cons_self .., h⟩]
      · rw [if_neg fun z => h z.2, List.getElem?_eq_none (by rw [List.length_set, wipe_length]; omega), List.getElem?_eq_none (by omega)]
    · rw [List.getElem?_set_ne e, wipe_get σ vs j]
      have : (j ∈ v :: vs) ↔ j ∈ vs := by simp [Ne.symm e]
      simp only [this]
theorem wipe_off {is vs : List Nat} {σ σ' : L2.St} (o : Off is (L2.wipe σ vs) σ') (h : ∀ i ∈ is, i ∈ vs) : L2.wipe σ' vs = L2.wipe σ vs := by
  have hl : σ'.length = σ.length := by rw [o.1, wipe_length]
  apply List.ext_getElem?
  intro j
  rw [wipe_get, wipe_get, hl]
  by_cases hj : j ∈ vs ∧ j < σ.length
  · rw [if_pos hj, if_pos hj]
  · rw [if_neg hj, if_neg hj]
    by_cases hj2 : j ∈ vs
    · have : ¬ j < σ.length := fun z => hj ⟨hj2, z⟩
      rw [List.getElem?_eq_none (by omega), List.getElem?_eq_none (by omega)]
    · rw [o.2 j fun z => hj2 (h j z), wipe_get, if_neg hj]

abbrev Cc.nox (C : Cc) : Cc := { C with W := fun _ _ _ _ => False }
/-- what the turns give -/
def lcD (p : Pt) (c : T) (e : E) (δ : Sl) : List D → R (List D)
  | [] => .ok []
  | d :: ds => match bindP p d δ with
    | none => .stk
    | some δ1 => match c δ1 with
      | .ok true => match e δ1 with
        | .ok y => match lcD p c e δ ds with
          | .ok r => .ok (y :: r)
          | _ => .stk
        | _ => .stk
      | .ok false => match lcD p c e δ ds with
        | .ok r => .ok r
        | _ => .stk
      | _ => .stk
def fLc (it : As) (vs : List Nat) (p : Pt) (c : T) (e : E) : Fr := fun δ => (it δ).bind fun items => (lcD p c e (wipeD δ vs) items).bind fun xs => if xs.length ≤ sizeLine then .ok xs else .stk
def tTrue : T := fun _ => .ok true
section
variable {X : Cx} {C : Cc} {pos : Pos}
theorem stp_app {G1 H1 G H : Hp} {p : Addr} {vs us : List V} (s : Stp G1 H1 G H) (hp : H1 p = none) (gp : G p = none) : Stp G1 H1 G (upd H p (.lst us)) :=
  ⟨s.g, fun a o ha => by rw [upd_ne (ne_of_none ha hp)]; exact s.h _ _ ha, fun a o ha => by rw [upd_ne (ne_of_none ha gp)]; exact s.sub _ _ ha, s.nw⟩
theorem lift_lc {K : PySem.W.Frag} {it : As} {vs : List Nat} {p : Pt} {c : T} {e : E} (hp : ∀ i ∈ idxP p, i ∈ vs) {σ : L2.St} {H : Hp} {Q : VK} (h : liftF K C (fLc it vs p c e) σ H Q) :
    tLc (liftI K C it) (liftG K C.nox p) (liftT K C.nox c) (liftE K C.nox e) vs σ H Q := by
  obtain ⟨δ, G, re, h⟩ := h
  refine ⟨δ, G, re, ?_⟩
  unfold fLc at h
  cases q : it δ with
  | stk => rw [q] at h; exact h
  | exc ex => rw [q] at h; exact h
  | ok items =>
    rw [q] at h
    intro J G1 H1 s1 ok L hD
    have h1 : onF K C σ G H ((lcD p c e (wipeD δ vs) items).bind fun xs => if xs.length ≤ sizeLine then .ok xs else .stk) fun _ p _ H' => Q (.ref p) H' := h
    cases q1 : lcD p c e (wipeD δ vs) items with
    | stk => rw [q1] at h1; exact h1.elim
    | exc ex =>
      exfalso
      -- the turns never raise
      have : ∀ ds : List D, ∀ ex, lcD p c e (wipeD δ vs) ds ≠ .exc ex := by
        intro ds
        induction ds with
        | nil => intro ex z; exact nomatch z
        | cons d ds ih =>
          intro ex z
          simp only [lcD] at z
          split at z
          · exact nomatch z
          · split at z
            · split at z
              · split at z <;> exact nomatch z
              · exact nomatch z
            · split at z <;> exact nomatch z
            · exact nomatch z
      exact this _ _ q1
    | ok xs =>
      rw [q1] at h1
      by_cases hz : xs.length ≤ sizeLine
      · have h2 : onF K C σ G H (.ok xs) fun _ p _ H' => Q (.ref p) H' := by
          have e9 : ((R.ok xs).bind fun xs => if xs.length ≤ sizeLine then R.ok xs else .stk) = R.ok xs := if_pos hz
          rw [e9] at h1
          exact h1
        refine ⟨fun i m H2 => m = items.length - i ∧ i ≤ items.length ∧ ∃ (G2 : Hp) (acc rest : List D) (va : List V), Stp G1 H1 G2 H2 ∧ G2 L = none ∧ H2 L = some (.lst va) ∧ RepL K G2 acc va ∧
          lcD p c e (wipeD δ vs) (items.drop i) = .ok rest ∧ acc ++ rest = xs, ⟨items.length, by simp, Nat.zero_le _, G1, [], xs, [], Stp.newH s1.sub hD _, s1.sub.free hD, upd_same, .nil, q1, rfl⟩, ?_⟩
        rintro i m H2 ⟨rfl, hi, G2, acc, rest, va, s2, gD, hDv, ra, el, ex⟩
        by_cases hlt : i < items.length
        · refine .inr ⟨ok.go i H2 (s2.g.trans s2.sub) hlt, fun H3 => ∃ (G2 : Hp) (acc rest : List D) (va : List V), Stp G1 H1 G2 H3 ∧ G2 L = none ∧ H3 L = some (.lst va) ∧ RepL K G2 acc va ∧
            lcD p c e (wipeD δ vs) (items.drop (i + 1)) = .ok rest ∧ acc ++ rest = xs, fun H' n => ⟨items.length - (i + 1), by omega, rfl, hlt, n⟩, fun x H' y => ?_⟩
          obtain ⟨d, G3, ed, s3, r3⟩ := ok.yld i H2 x H' G2 s2.g s2.sub hlt y
          have ed2 : items.drop i = d :: items.drop (i + 1) := by
            rw [List.drop_eq_getElem_cons hlt]
            rw [List.getElem?_eq_getElem hlt] at ed
            rw [Option.some.inj ed]
          rw [ed2] at el
          simp only [lcD] at el
          cases eb : bindP p d (wipeD δ vs) with
          | none => rw [eb] at el; exact nomatch el
          | some δ1 =>
            rw [eb] at el
            simp only at el
            have s23 := s2.trans s3
            have nD : ∀ {G' H' : Hp}, Stp G2 H2 G' H' → G' L = none := fun {G' H'} s => by
              cases z : G' L with
              | none => rfl
              | some o =>
                rcases s.nw L (by rw [z]; exact fun y => nomatch y) with y | y
                · exact absurd gD y
                · rw [hDv] at y; exact nomatch y
            refine ⟨d, wipeD δ vs, G3, δ1, ((((re.step s1).step s23).wipe vs).wish _), r3, eb, fun σ4 re4 o4 => ⟨wipe_off o4 hp, ?_⟩⟩
            refine ⟨δ1, G3, re4, ?_⟩
            cases ec : c δ1 with
            | stk => rw [ec] at el; exact nomatch el
            | exc _ => rw [ec] at el; exact nomatch el
            | ok b =>
              rw [ec] at el
              intro G4 H4 s4
              cases b with
              | true =>
                rw [if_pos rfl]
                simp only at el
                refine ⟨δ1, G4, re4.step s4, ?_⟩
                cases ee : e δ1 with
                | stk => rw [ee] at el; exact nomatch el
                | exc _ => rw [ee] at el; exact nomatch el
                | ok y0 =>
                  rw [ee] at el
                  intro v5 G5 H5 s5 r5
                  simp only at el
                  cases er : lcD p c e (wipeD δ vs) (items.drop (i + 1)) with
                  | stk => rw [er] at el; exact nomatch el
                  | exc _ => rw [er] at el; exact nomatch el
                  | ok rest2 =>
                    rw [er] at el
                    simp only [R.ok.injEq] at el
                    subst el
                    have s25 := (s3.trans s4).trans s5
                    have s15 := s2.trans s25
                    have g5 := nD s25
                    have hl := ra.length
                    have hl2 : acc.length + (rest2.length + 1) = xs.length := by rw [← ex]; simp
                    refine ⟨va, s25.h _ _ hDv, by omega, G5, acc ++ [y0], rest2, va ++ [v5], stp_app (vs := va) s15 hD g5, g5, upd_same, (ra.mono s25.g).append (RepL.one r5), rfl, ?_⟩
                    rw [List.append_assoc]
                    exact ex
              | false =>
                rw [if_neg Bool.false_ne_true]
                simp only at el
                cases er : lcD p c e (wipeD δ vs) (items.drop (i + 1)) with
                | stk => rw [er] at el; exact nomatch el
                | exc _ => rw [er] at el; exact nomatch el
                | ok rest2 =>
                  rw [er] at el
                  simp only [R.ok.injEq] at el
                  subst el
                  have s24 := s3.trans s4
                  exact ⟨G4, acc, rest2, va, s2.trans s24, nD s24, s24.h _ _ hDv, ra.mono s24.g, rfl, ex⟩
        · have ei : i = items.length := by omega
          subst ei
          rw [List.drop_length] at el
          simp only [lcD, R.ok.injEq] at el
          subst el
          rw [List.append_nil] at ex
          subst ex
          exact .inl ⟨ok.stop _ H2 (s2.g.trans s2.sub) (Nat.le_refl _), h2 L va G2 H2 (s1.trans s2) (s1.h.free hD) gD hDv ra⟩
      · have e9 : ((R.ok xs).bind fun xs => if xs.length ≤ sizeLine then R.ok xs else .stk) = R.stk := if_neg hz
        rw [e9] at h1
        exact h1.elim
abbrev STs (X : Cx) (C : Cc) (ifs : List Expr) (t : T) : Prop := PTs X ifs (liftT X.K C t)
theorem sts_nil : STs X C [] tTrue := ⟨fun pins s σ H Q I ⟨δ, G, re, h⟩ => pts_nil.run pins s σ H Q I (h G H (Stp.refl re.sub))⟩
theorem sts_one {c : Expr} {t : T} (h : ST X C c t) : STs X C [c] t := pts_one h
variable {elt tg iter : Expr} {ifs : List Expr} {scope : Scope} {it : As} {p : Pt} {c : T} {e : E}
theorem sf_lc (own : List (Str × Nat)) (hc : X.calm = true) (hN : X.N.Nodup) (hi : SI X C tg iter it) (ok : BlkOk X.N X.env.scope scope own) (hp : ∀ i ∈ idxP p, i ∈ own.map (·.2))
    (hg : ∀ (s : Shared) (H : Hp) (c0 : Addr) (cl : List (Str × Addr)) (fp : List Addr), SG (X.blk s H scope (compEnvC scope cl c0 X.env) fp) C.nox tg p)
    (ht : ∀ (s : Shared) (H : Hp) (c0 : Addr) (cl : List (Str × Addr)) (fp : List Addr), STs (X.blk s H scope (compEnvC scope cl c0 X.env) fp) C.nox ifs c)
    (he : ∀ (s : Shared) (H : Hp) (c0 : Addr) (cl : List (Str × Addr)) (fp : List Addr), SE (X.blk s H scope (compEnvC scope cl c0 X.env) fp) C.nox elt e) (hs : ∀ x, foldedSetIterable iter X.env x = pure x := by intro _; rfl) :
    SF X C (.ListComp elt [⟨tg, iter, ifs, 0⟩] scope pos) (fLc it (own.map (·.2)) p c e) :=
  pe_weak (pe_lc hc hN hi ok hg ht he hs) fun σ H Q h => lift_lc hp h
/-- y = [..] -/
theorem lift_ownLc {K : PySem.W.Frag} {f : Fr} {i : Nat} {Dn : Ends} {σ : L2.St} {H : Hp} {tlc : TE} (w : ∀ σ H Q, liftF K C f σ H Q → tlc σ H Q) (h : liftS K C (sOwn i f) Dn σ H) : tAsg tlc (gName i) Dn σ H := by
  refine w _ _ _ ?_
  obtain ⟨δ, G, re, h⟩ := h
  refine ⟨δ, G, re, ?_⟩
  unfold sOwn at h
  cases q : f δ with
  | stk => rw [q] at h; exact h
  | exc e => rw [q] at h; exact onX_of re h
  | ok xs =>
    rw [q] at h
    intro p vs G' H' s hp gp hh r
    exact h _ G' H' (re.setNew s i hp gp hh r) s.g
theorem lift_setLc {K : PySem.W.Frag} {f : Fr} {i : Nat} {Dn : Ends} {σ : L2.St} {H : Hp} {tlc : TE} (w : ∀ σ H Q, liftF K C f σ H Q → tlc σ H Q) (h : liftS K C (sSet i (eFz f)) Dn σ H) : tAsg tlc (gName i) Dn σ H := by
  refine w _ _ _ (lift_fz ?_)
  obtain ⟨δ, G, re, h⟩ := h
  exact ⟨δ, G, re, onR_mono (onS_R re h) fun d v G1 H1 s1 r1 h1 => h1 (σ.set i (some v)) G1 H1 ((re.step s1).setV i r1) (Same.refl _)⟩
theorem ss_setLc (i : Nat) {y : Str} {py spos : Pos} (own : List (Str × Nat)) (hc : X.calm = true) (hN : X.N.Nodup) (hy : X.N[i]? = some y) (hyl : X.env.scope.names.lookup y = some .local)
    (hsw : swapsWith (.ListComp elt [⟨tg, iter, ifs, 0⟩] scope pos) (some (.Name y py)) spos.line X.env = pure true) (hi : SI X C tg iter it) (ok : BlkOk X.N X.env.scope scope own) (hp : ∀ i ∈ idxP p, i ∈ own.map (·.2))
    (hg : ∀ (s : Shared) (H : Hp) (c0 : Addr) (cl : List (Str × Addr)) (fp : List Addr), SG (X.blk s H scope (compEnvC scope cl c0 X.env) fp) C.nox tg p)
    (ht : ∀ (s : Shared) (H : Hp) (c0 : Addr) (cl : List (Str × Addr)) (fp : List Addr), STs (X.blk s H scope (compEnvC scope cl c0 X.env) fp) C.nox ifs c)
    (he : ∀ (s : Shared) (H : Hp) (c0 : Addr) (cl : List (Str × Addr)) (fp : List Addr), SE (X.blk s H scope (compEnvC scope cl c0 X.env) fp) C.nox elt e) (hs : ∀ x, foldedSetIterable iter X.env x = pure x := by intro _; rfl) :
    SS X C (.Assign [.Name y py] (.ListComp elt [⟨tg, iter, ifs, 0⟩] scope pos) spos) (sSet i (eFz (fLc it (own.map (·.2)) p c e))) :=
  ps_weak (ps_setLc hc hN hy hyl hsw hi ok hg ht he hs) fun Dn σ H h => lift_setLc (fun _ _ _ z => lift_lc hp z) h
theorem ss_ownLc (i : Nat) {y : Str} {py spos : Pos} (own : List (Str × Nat)) (hc : X.calm = true) (hN : X.N.Nodup) (hy : X.N[i]? = some y) (hyl : X.env.scope.names.lookup y = some .local)
    (hsw : swapsWith (.ListComp elt [⟨tg, iter, ifs, 0⟩] scope pos) (some (.Name y py)) spos.line X.env = pure true) (hi : SI X C tg iter it) (ok : BlkOk X.N X.env.scope scope own) (hp : ∀ i ∈ idxP p, i ∈ own.map (·.2))
    (hg : ∀ (s : Shared) (H : Hp) (c0 : Addr) (cl : List (Str × Addr)) (fp : List Addr), SG (X.blk s H scope (compEnvC scope cl c0 X.env) fp) C.nox tg p)
    (ht : ∀ (s : Shared) (H : Hp) (c0 : Addr) (cl : List (Str × Addr)) (fp : List Addr), STs (X.blk s H scope (compEnvC scope cl c0 X.env) fp) C.nox ifs c)
    (he : ∀ (s : Shared) (H : Hp) (c0 : Addr) (cl : List (Str × Addr)) (fp : List Addr), SE (X.blk s H scope (compEnvC scope cl c0 X.env) fp) C.nox elt e) (hs : ∀ x, foldedSetIterable iter X.env x = pure x := by intro _; rfl) :
    SS X C (.Assign [.Name y py] (.ListComp elt [⟨tg, iter, ifs, 0⟩] scope pos) spos) (sOwn i (fLc it (own.map (·.2)) p c e)) :=
  ps_weak (ps_setLc hc hN hy hyl hsw hi ok hg ht he hs) fun Dn σ H h => lift_ownLc (fun _ _ _ z => lift_lc hp z) h
end
end Fs

/-! F8: the ends, further rules. -/
namespace Fs
open PySem L2

theorem hu_big {A : Around} {k : Nat} (hr : Room k A) : A.units + 64 < cLine := hr.units
/-- turns that a while may take -/
def fuel : Nat := 100000
theorem law_sp {K : PySem.W.Frag} {ct : String → Addr} {H : Hp} {a : Addr} {ns : List Int} {F : List D → R D} (hS : SqL K H a (ns.map V.int)) (h : F [.lst (ns.map D.int)] = .ok (.bl true)) :
    spD K ct 1 F [.ref a] H (fun v _ => v = .bl true) fun _ _ _ => False :=
  ⟨H, [.lst (ns.map D.int)], rfl, Same.refl _, .cons (.lst hS (RepL.ints ns)) .nil, by
    rw [h]
    intro v G' H' s r
    cases r
    rfl⟩
theorem law_cx {P : Program} {w : World} {H : Hp} {s : Shared} {e : Value} {s' : Shared} (h : L2.CX P w [] H s (fun _ _ _ => False) e s') : False := by
  obtain ⟨_, _, _, _, _, _, _, _, _, _, _, _, z⟩ := h
  exact z
section
variable {X : Cx} {C : Cc} {pos : Pos} {a b : Expr} {fa fb : E} {rest : List Expr}
theorem lift_nt {K : PySem.W.Frag} {σ : L2.St} {H : Hp} {Q : VK} (h : liftE K C (eNt fa) σ H Q) : tNotV (liftE K C fa) σ H Q := by
  obtain ⟨δ, G, re, h⟩ := h
  refine ⟨δ, G, re, onR_mono (onR_RR h) fun d v G1 H1 s1 r1 h1 => ?_⟩
  cases r1 with
  | bl k => exact ⟨k, rfl, onR_self s1.sub h1 (.bl _)⟩
  | non => exact h1.elim
  | int i => exact h1.elim
  | str x => exact h1.elim
  | fn x => exact h1.elim
  | dct p l q => exact h1.elim
  | tup p q => exact h1.elim
  | lst p q => exact h1.elim
theorem se_nt (ha : SE X C a fa) : SE X C (.UnaryOp .Not a pos) (eNt fa) := pe_weak (pe_not ha) fun σ H Q h => lift_nt h
theorem se_one {op : BoolOp} (ha : SE X C a fa) : SE X C (.BoolOp op [a] pos) fa := pe_one ha
theorem se_and (ha : SE X C a fa) (hb : SE X C (.BoolOp .And (b :: rest) pos) fb) : SE X C (.BoolOp .And (a :: b :: rest) pos) (eAn fa fb) := pe_weak (pe_and ha hb) fun σ H Q h => lift_anV h
theorem se_or (ha : SE X C a fa) (hb : SE X C (.BoolOp .Or (b :: rest) pos) fb) : SE X C (.BoolOp .Or (a :: b :: rest) pos) (eOr fa fb) := pe_weak (pe_or ha hb) fun σ H Q h => lift_orV h
end
def gAddI : B2
  | .int i, .int j => some (.int (i + j))
  | .str x, .str y => if x.length + y.length ≤ sizeLine then some (.str (x ++ y)) else none
  | _, _ => none
section
variable {X : Cx} {C : Cc} {pos : Pos} {tg : Expr}
theorem io_addI : OpR X (inplaceOp .Add) (rD X.K gAddI) := by
  intro pins s σ H x y v u Q I rx ry h
  obtain ⟨G, dx, dy, d, e, sub, r1, r2, h⟩ := h
  cases r1 <;> cases r2 <;> simp only [gAddI, Option.some.injEq, reduceCtorEq] at e
  · subst e
    exact iop_add pins s σ H _ _ v u Q I rx ry ⟨_, _, rfl, rfl, h _ G H (Stp.refl sub) (.int _)⟩
  · split at e
    · rename_i hz
      simp only [Option.some.injEq] at e
      subst e
      exact iop_add_str pins s σ H _ _ v u Q I rx ry ⟨_, _, rfl, rfl, hz, h _ G H (Stp.refl sub) (.str _)⟩
    · exact nomatch e
/-! ### reversed(range(a, b)) -/
theorem itOk_rngC {K : PySem.W.Frag} {G : Hp} {lo : Int} {n : Nat} : ItOk K (Itc (lo + (n : Int) - 1) (-1) n) G (rngD lo n).reverse where
  go := fun i H s hi => by show i < n; simpa [rngD] using hi
  stop := fun i H s hi => by show n ≤ i; simpa [rngD] using hi
  yld := fun i H v H' Gc s1 s2 hi y => by
    obtain ⟨rfl, rfl⟩ := y
    have hi' : i < n := by simpa [rngD] using hi
    refine ⟨_, Gc, ?_, Stp.refl s2, .int _⟩
    rw [List.getElem?_reverse (by simpa [rngD] using hi'), ints_get (by simp only [rngD, List.length_map, List.length_range]; omega)]
    congr 2
    simp only [rngD, List.length_map, List.length_range]
    omega
def iRevR2 (a b : E) : As := fun δ => (a δ).bind fun x => (b δ).bind fun y => match x, y with
  | .int i, .int j => if -(2 ^ 62) ≤ i ∧ i < 2 ^ 62 ∧ -(2 ^ 62) ≤ j ∧ j < 2 ^ 62 then .ok (rngD i (j - i).toNat).reverse else .stk
  | _, _ => .stk
theorem onR_RI {K : PySem.W.Frag} {σ : L2.St} {G H : Hp} {r : R D} {k : D → R (List D)} {P : List D → It → Hp → Hp → Prop} (h : onI K C σ G H (r.bind k) P) : onR K C σ G H r fun ds _ G1 H1 => onI K C σ G1 H1 (k ds) P := by
  cases r with
  | ok d =>
    intro v G1 H1 s q
    have h' : onI K C σ G H (k d) P := h
    show onI K C σ G1 H1 (k d) P
    cases e : k d with
    | ok d2 => rw [e] at h'; exact fun J G2 H2 s2 q2 => h' J G2 H2 (s.trans s2) q2
    | exc e2 => rw [e] at h'; exact onX_step h' s
    | stk => rw [e] at h'; exact h'
  | exc e => exact h
  | stk => exact h
theorem si_revR2 {a b : Expr} {fa fb : E} {p p2 pos pos2 : Pos} (hg : Gl X "reversed") (hm : X.mg "reversed" = none) (hgr : Gl X "range") (hmr : X.mg "range" = none) (ha : SE X C a fa) (hb : SE X C b fb)
    (hs : starEach [.Call (.Name "range" p2) [a, b] [] pos2] X.env = (false, eval (.Call (.Name "range" p2) [a, b] [] pos2) X.env) :: starEach [] X.env := by rfl)
    (hs1 : starEach [a, b] X.env = (false, eval a X.env) :: starEach [b] X.env := by rfl) (hs2 : starEach [b] X.env = (false, eval b X.env) :: starEach [] X.env := by rfl) (hp : (backTo pos2 (starEach [b] X.env)).any (·.1) = false := by rfl) :
    SI X C tg (.Call (.Name "reversed" p) [.Call (.Name "range" p2) [a, b] [] pos2] [] pos) (iRevR2 fa fb) :=
  pi_weak (pi_revR hg hm (prg_2 hgr hmr ha hb hs1 hs2 hp) hs) fun σ H R ⟨δ, G, re, h⟩ => ⟨δ, G, re, onR_mono (onR_RI h) fun d v G1 H1 s1 r1 h1 => ⟨δ, G1, re.step s1, onR_mono (onR_RI h1) fun d2 v2 G2 H2 s2 r2 h2 => by
    cases r1 <;> cases r2 <;> first
      | exact h2.elim
      | (simp only at h2
         split at h2
         · rename_i hz
           exact ⟨_, _, rfl, rfl, hz.1, hz.2.1, hz.2.2.1, hz.2.2.2, h2 _ G2 H2 (Stp.refl s2.sub) itOk_rngC⟩
         · exact h2.elim)⟩⟩
/-- x.extend(e) -/
theorem ss_ext (i : Nat) {x : Str} {p1 p2 p3 : Pos} {a : Expr} {fa : E} (ha : SE X C a fa) : True := trivial
end
end Fs

/-! F9: reckoning with the functions over data. -/
namespace Fs
open PySem L2

theorem R.bind_ok {α β : Type} (a : α) (k : α → R β) : (R.ok a).bind k = k a := rfl
theorem R.bind_exc {α β : Type} (e : Ex) (k : α → R β) : (R.exc e).bind k = .exc e := rfl
theorem R.ofO_some {α : Type} (a : α) : R.ofO (some a) = .ok a := rfl
theorem sBind_ok {α : Type} (a : α) (δ : Sl) (k : α → RS) : sBind (.ok a) δ k = k a := rfl
theorem sSeq_nx {f g : S} {δ δ' : Sl} (h : f δ = .nx δ') : sSeq f g δ = g δ' := by unfold sSeq; rw [h]
theorem sSeq_rt {f g : S} {δ : Sl} {d : D} (h : f δ = .rt d) : sSeq f g δ = .rt d := by unfold sSeq; rw [h]
theorem runD_rt {N : Nat} {body : S} {ds : List D} {d : D} (h : body (ds.map .v ++ List.replicate (N - ds.length) .un) = .rt d) : runD N body ds = .ok d := by unfold runD; rw [h]
theorem runD_nx {N : Nat} {body : S} {ds : List D} {δ : Sl} (h : body (ds.map .v ++ List.replicate (N - ds.length) .un) = .nx δ) : runD N body ds = .ok .non := by unfold runD; rw [h]
theorem runD_exc {N : Nat} {body : S} {ds : List D} {e : Ex} {δ : Sl} (h : body (ds.map .v ++ List.replicate (N - ds.length) .un) = .exc e δ) : runD N body ds = .exc e := by unfold runD; rw [h]

/-- a loop whose turns go on -/
theorem forD_inv {p : Pt} {body : S} (Inv : Nat → Sl → Prop) : ∀ (items : List D) (k : Nat) (δ : Sl), Inv k δ →
    (∀ i d δ, items[i]? = some d → Inv (k + i) δ → ∃ δ1, bindP p d δ = some δ1 ∧ ∃ δ2, body δ1 = .nx δ2 ∧ Inv (k + i + 1) δ2) → ∃ δ', forD p body items δ = .nx δ' ∧ Inv (k + items.length) δ'
  | [], k, δ, h0, _ => ⟨δ, rfl, h0⟩
  | d :: ds, k, δ, h0, hs => by
    obtain ⟨δ1, e1, δ2, e2, h2⟩ := hs 0 d δ rfl h0
    obtain ⟨δ', e3, h3⟩ := forD_inv Inv ds (k + 1) δ2 h2 fun i d δ hd hi => by
      have z := hs (i + 1) d δ (by simpa using hd) (by rw [show k + (i + 1) = k + 1 + i by omega]; exact hi)
      rw [show k + (i + 1) + 1 = k + 1 + i + 1 by omega] at z
      exact z
    refine ⟨δ', ?_, by rw [List.length_cons, show k + (ds.length + 1) = k + 1 + ds.length by omega]; exact h3⟩
    simp only [forD, e1, e2, e3]
theorem rngD_length (lo : Int) (n : Nat) : (rngD lo n).length = n := by simp [rngD]
theorem rngD_some {lo : Int} {n i : Nat} {d : D} (h : (rngD lo n)[i]? = some d) : i < n ∧ d = .int (lo + (i : Int)) := by
  have hi : i < n := by
    have := (List.getElem?_eq_some_iff.mp h).1
    simpa [rngD] using this
  rw [ints_get hi] at h
  exact ⟨hi, (Option.some.inj h).symm⟩
/-- a loop over a range whose turns go on -/
theorem forR {p : Pt} {body : S} {lo : Int} {n : Nat} {δ : Sl} (Inv : Nat → Sl → Prop) (h0 : Inv 0 δ)
    (hs : ∀ i δ, i < n → Inv i δ → ∃ δ1, bindP p (.int (lo + (i : Int))) δ = some δ1 ∧ ∃ δ2, body δ1 = .nx δ2 ∧ Inv (i + 1) δ2) : ∃ δ', forD p body (rngD lo n) δ = .nx δ' ∧ Inv n δ' := by
  have z := forD_inv (p := p) (body := body) Inv (rngD lo n) 0 δ h0 fun i d δ hd hi => by
    obtain ⟨h1, h2⟩ := rngD_some hd
    subst h2
    rw [Nat.zero_add] at hi ⊢
    exact hs i δ h1 hi
  rw [Nat.zero_add, rngD_length] at z
  exact z

theorem ixN_ofNat {n j : Nat} (h : j < n) : ixN n (j : Int) = some j := by
  unfold ixN
  rw [if_pos (by omega), if_pos (by omega)]
  simp
theorem atI_ofNat {α : Type} (xs : List α) {j : Nat} (h : j < xs.length) : atI xs (j : Int) = some xs[j] := by
  unfold atI
  rw [ixN_ofNat h]
  exact List.getElem?_eq_getElem h

/-! ### sizes of products -/
theorem bits_le {i : Int} {a : Nat} (h : i.natAbs < 2 ^ a) : Builtin.Int.intBits i ≤ a := by
  unfold Builtin.Int.intBits
  split
  · exact Nat.zero_le _
  · rename_i hz
    have hz' : i.natAbs ≠ 0 := by
      simp only [beq_iff_eq] at hz
      omega
    exact Nat.succ_le_of_lt ((Nat.log2_lt hz').mpr h)
theorem mul_fits {i j : Int} {a b : Nat} (ha : i.natAbs < 2 ^ a) (hb : j.natAbs < 2 ^ b) (h : a + b ≤ 134217728) : IntMulOk i j := mulx_ok ha hb h |>.ok
theorem mul_fitsL {i j : Int} (ha : i.natAbs < 2 ^ 64) : IntMulOk i j := .of_left (bits_le ha)
theorem mul_fitsR {i j : Int} (ha : j.natAbs < 2 ^ 64) : IntMulOk i j := .of_right (bits_le ha)
theorem log_lt {n a : Nat} (h : n < 2 ^ a) (h0 : 0 < a) : n.log2 < a := by
  by_cases hz : n = 0
  · subst hz
    simpa using h0
  · exact (Nat.log2_lt hz).mpr h

@[simp] theorem mulOk_m1 (j : Int) : IntMulOk (-1) j := mul_fitsL (by decide)
@[simp] theorem mulOk_1 (j : Int) : IntMulOk 1 j := mul_fitsL (by decide)
@[simp] theorem mulOk_2 (j : Int) : IntMulOk 2 j := mul_fitsL (by decide)
@[simp] theorem mulOk_3 (j : Int) : IntMulOk 3 j := mul_fitsL (by decide)
@[simp] theorem mulOk_r2 (j : Int) : IntMulOk j 2 := mul_fitsR (by decide)
@[simp] theorem mulOk_r1000 (j : Int) : IntMulOk j 1000 := mul_fitsR (by decide)
@[simp] theorem mulOk_r1000003 (j : Int) : IntMulOk j 1000003 := mul_fitsR (by decide)
theorem log_small {n : Nat} (h : n < 2 ^ 64) : n.log2 < 9000 := Nat.lt_of_lt_of_le (log_lt h (by decide)) (by decide)
/-! ### unfolding -/
@[simp] theorem v_bind_ok {α β : Type} (a : α) (k : α → R β) : (R.ok a).bind k = k a := id rfl
@[simp] theorem v_bind_exc {α β : Type} (e : Ex) (k : α → R β) : (R.exc e).bind k = .exc e := id rfl
@[simp] theorem v_bind_stk {α β : Type} (k : α → R β) : (R.stk : R α).bind k = .stk := id rfl
@[simp] theorem v_ofO_some {α : Type} (a : α) : R.ofO (some a) = .ok a := id rfl
@[simp] theorem v_ofO_none {α : Type} : R.ofO (none : Option α) = .stk := id rfl
@[simp] theorem v_sBind_ok {α : Type} (a : α) (δ : Sl) (k : α → RS) : sBind (.ok a) δ k = k a := id rfl
@[simp] theorem v_sBind_exc {α : Type} (e : Ex) (δ : Sl) (k : α → RS) : sBind (.exc e : R α) δ k = .exc e δ := id rfl
@[simp] theorem v_sBind_stk {α : Type} (δ : Sl) (k : α → RS) : sBind (.stk : R α) δ k = .stk := id rfl
@[simp] theorem v_eV (i : Nat) (δ : Sl) : eV i δ = (match δ[i]? with | some (.v d) => .ok d | _ => .stk) := id rfl
@[simp] theorem v_eC (d : D) (δ : Sl) : eC d δ = .ok d := id rfl
@[simp] theorem v_eBin (g : B2) (a b : E) (δ : Sl) : eBin g a b δ = (a δ).bind fun x => (b δ).bind fun y => R.ofO (g x y) := id rfl
@[simp] theorem v_eUn (g : B1) (a : E) (δ : Sl) : eUn g a δ = (a δ).bind fun x => R.ofO (g x) := id rfl
@[simp] theorem v_eFn (g : BA) (a : As) (δ : Sl) : eFn g a δ = (a δ).bind fun x => R.ofO (g x) := id rfl
@[simp] theorem v_eCall (F : List D → R D) (a : As) (δ : Sl) : eCall F a δ = (a δ).bind F := id rfl
@[simp] theorem v_tV (f : E) (δ : Sl) : tV f δ = (f δ).bind fun d => match d with | .bl b => .ok b | _ => .stk := id rfl
@[simp] theorem v_tNt (f : T) (δ : Sl) : tNt f δ = (f δ).bind fun b => .ok (!b) := id rfl
@[simp] theorem v_tAn (f g : T) (δ : Sl) : tAn f g δ = (f δ).bind fun b => if b = true then g δ else .ok false := id rfl
@[simp] theorem v_tOrr (f g : T) (δ : Sl) : tOrr f g δ = (f δ).bind fun b => if b = true then .ok true else g δ := id rfl
@[simp] theorem v_tTrue (δ : Sl) : tTrue δ = .ok true := id rfl
@[simp] theorem v_eAn (a b : E) (δ : Sl) : eAn a b δ = (a δ).bind fun x => match x with | .bl true => b δ | .bl false => .ok (.bl false) | _ => .stk := id rfl
@[simp] theorem v_eOr (a b : E) (δ : Sl) : eOr a b δ = (a δ).bind fun x => match x with | .bl true => .ok (.bl true) | .bl false => b δ | _ => .stk := id rfl
@[simp] theorem v_eNt (a : E) (δ : Sl) : eNt a δ = (a δ).bind fun x => match x with | .bl k => .ok (.bl !k) | _ => .stk := id rfl
@[simp] theorem v_eIf (t : T) (a b : E) (δ : Sl) : eIf t a b δ = (t δ).bind fun k => if k = true then a δ else b δ := id rfl
@[simp] theorem v_aNil (δ : Sl) : aNil δ = .ok [] := id rfl
@[simp] theorem v_aCons (f : E) (r : As) (δ : Sl) : aCons f r δ = (f δ).bind fun x => (r δ).bind fun xs => .ok (x :: xs) := id rfl
@[simp] theorem v_eTup (r : As) (δ : Sl) : eTup r δ = (r δ).bind fun xs => if xs.length ≤ sizeLine then .ok (.tup xs) else .stk := id rfl
@[simp] theorem v_eFz (f : Fr) (δ : Sl) : eFz f δ = (f δ).bind fun xs => .ok (.lst xs) := id rfl
@[simp] theorem v_fLst (r : As) (δ : Sl) : fLst r δ = (r δ).bind fun xs => if xs.length ≤ sizeLine then .ok xs else .stk := id rfl
@[simp] theorem v_fList (f : E) (δ : Sl) : fList f δ = (f δ).bind fun d => match d with | .lst xs => .ok xs | .tup xs => .ok xs | _ => .stk := id rfl
@[simp] theorem v_sNx (δ : Sl) : sNx δ = .nx δ := id rfl
@[simp] theorem v_sBk (δ : Sl) : sBk δ = .bk δ := id rfl
@[simp] theorem v_sCt (δ : Sl) : sCt δ = .ct δ := id rfl
@[simp] theorem v_sSeq (f g : S) (δ : Sl) : sSeq f g δ = (match f δ with | .nx δ' => g δ' | r => r) := id rfl
@[simp] theorem v_sRet (f : E) (δ : Sl) : sRet f δ = sBind (f δ) δ fun d => .rt d := id rfl
@[simp] theorem v_sRetN (δ : Sl) : sRetN δ = .rt .non := id rfl
@[simp] theorem v_sIf (t : T) (a b : S) (δ : Sl) : sIf t a b δ = sBind (t δ) δ fun k => if k = true then a δ else b δ := id rfl
@[simp] theorem v_sSet (i : Nat) (f : E) (δ : Sl) : sSet i f δ = sBind (f δ) δ fun d => .nx (δ.set i (.v d)) := id rfl
@[simp] theorem v_sAsg (p : Pt) (f : E) (δ : Sl) : sAsg p f δ = sBind (f δ) δ fun d => sBindP p d δ := id rfl
@[simp] theorem v_sFor (it : As) (p : Pt) (b : S) (δ : Sl) : sFor it p b δ = sBind (it δ) δ fun items => forD p b items δ := id rfl
@[simp] theorem v_sOwn (i : Nat) (f : Fr) (δ : Sl) : sOwn i f δ = sBind (f δ) δ fun xs => .nx (δ.set i (.own xs)) := id rfl
@[simp] theorem v_sApp (i : Nat) (f : E) (δ : Sl) : sApp i f δ = (match δ[i]? with | some (.own xs) => sBind (f δ) δ fun d => if xs.length < sizeLine then .nx (δ.set i (.own (xs ++ [d]))) else .stk | _ => .stk) := id rfl
@[simp] theorem v_sFrz (i : Nat) (f : S) (δ : Sl) : sFrz i f δ = (match δ[i]? with | some (.own xs) => f (δ.set i (.v (.lst xs))) | _ => f δ) := id rfl
@[simp] theorem v_sAug (i : Nat) (g : B2) (f : E) (δ : Sl) : sAug i g f δ = (match δ[i]? with | some (.v x) => sBind (f δ) δ fun y => (match g x y with | some z => .nx (δ.set i (.v z)) | none => .stk) | _ => .stk) := id rfl
@[simp] theorem v_nm (i : Nat) (d : D) (δ : Sl) : bindP (.nm i) d δ = some (δ.set i (.v d)) := by simp [bindP]
@[simp] theorem v_tp (ps : List Pt) (ds : List D) (δ : Sl) : bindP (.tp ps) (.tup ds) δ = bindPs ps ds δ := by simp [bindP]
@[simp] theorem v_tpl (ps : List Pt) (ds : List D) (δ : Sl) : bindP (.tp ps) (.lst ds) δ = bindPs ps ds δ := by simp [bindP]
@[simp] theorem v_ps0 (δ : Sl) : bindPs [] [] δ = some δ := by simp [bindPs]
@[simp] theorem v_ps1 (p : Pt) (ps : List Pt) (d : D) (ds : List D) (δ : Sl) : bindPs (p :: ps) (d :: ds) δ = (match bindP p d δ with | some δ' => bindPs ps ds δ' | none => none) := by cases h : bindP p d δ <;> simp [bindPs, h]
@[simp] theorem v_sBindP (p : Pt) (d : D) (δ : Sl) : sBindP p d δ = (match bindP p d δ with | some δ' => .nx δ' | none => .stk) := id rfl
def rngOk (j : Int) : Prop := -(2 ^ 62) ≤ j ∧ j < 2 ^ 62
instance (j : Int) : Decidable (rngOk j) := inferInstanceAs (Decidable (-(2 ^ 62) ≤ j ∧ j < 2 ^ 62))
theorem rngOk_of {j : Int} (h1 : -1000000000 ≤ j) (h2 : j ≤ 1000000000) : rngOk j := by
  unfold rngOk
  omega
theorem rngOk_nat {j : Nat} (h : j ≤ 1000000000) : rngOk (j : Int) := rngOk_of (by omega) (by omega)
@[simp] theorem rngOk_0 : rngOk 0 := rngOk_of (by omega) (by omega)
@[simp] theorem rngOk_1 : rngOk 1 := rngOk_of (by omega) (by omega)
@[simp] theorem v_iRange1 (a : As) (δ : Sl) : iRange1 a δ = (a δ).bind fun ds => match ds with | [.int j] => if rngOk j then .ok (rngD 0 j.toNat) else .stk | _ => .stk := id rfl
@[simp] theorem v_iRange2 (a : As) (δ : Sl) : iRange2 a δ = (a δ).bind fun ds => match ds with | [.int i, .int j] => if rngOk i ∧ rngOk j then .ok (rngD i (j - i).toNat) else .stk | _ => .stk := by
  unfold iRange2 rngOk
  congr 1
  funext ds
  split <;> simp only [and_assoc]
@[simp] theorem v_iRevR2 (a b : E) (δ : Sl) : iRevR2 a b δ = (a δ).bind fun x => (b δ).bind fun y => match x, y with | .int i, .int j => if rngOk i ∧ rngOk j then .ok (rngD i (j - i).toNat).reverse else .stk | _, _ => .stk := by
  unfold iRevR2 rngOk
  congr 1
  funext x
  congr 1
  funext y
  split <;> simp only [and_assoc]
@[simp] theorem v_iSeq (f : E) (δ : Sl) : iSeq f δ = (f δ).bind fun d => match d with | .lst xs => .ok xs | .tup xs => .ok xs | .str x => .ok (signs x) | _ => .stk := id rfl
def enumD (xs : List D) : List D := xs.zipIdx.map fun p => .tup [.int (p.2 : Nat), p.1]
@[simp] theorem v_iEnumD (a : As) (δ : Sl) : iEnumD a δ = (a δ).bind fun ds => match ds with | [.lst xs] => .ok (enumD xs) | _ => .stk := id rfl
@[simp] theorem v_iRevD (a : As) (δ : Sl) : iRevD a δ = (a δ).bind fun ds => match ds with | [.lst xs] => .ok xs.reverse | _ => .stk := id rfl
@[simp] theorem v_eSl (a : E) (lo hi : Os) (δ : Sl) : eSl a lo hi δ = (a δ).bind fun x => (lo δ).bind fun l => (hi δ).bind fun h => R.ofO (gSl x l h) := id rfl
@[simp] theorem v_oNone (δ : Sl) : oNone δ = .ok none := id rfl
@[simp] theorem v_oSome (f : E) (δ : Sl) : oSome f δ = (f δ).bind fun d => match d with | .int i => .ok (some i) | _ => .stk := id rfl
@[simp] theorem v_fLc (it : As) (vs : List Nat) (p : Pt) (c : T) (e : E) (δ : Sl) : fLc it vs p c e δ = (it δ).bind fun items => (lcD p c e (wipeD δ vs) items).bind fun xs => if xs.length ≤ sizeLine then .ok xs else .stk := id rfl
@[simp] theorem v_eChain (g g' : B2) (a b c : E) (δ : Sl) : eChain g g' a b c δ = (a δ).bind fun x => (b δ).bind fun y => (R.ofO (g x y)).bind fun z => match z with | .bl true => (c δ).bind fun w => R.ofO (g' y w) | .bl false => .ok (.bl false) | _ => .stk := id rfl
@[simp] theorem v_add (i j : Int) : gAdd (.int i) (.int j) = some (.int (i + j)) := id rfl
@[simp] theorem v_addI (i j : Int) : gAddI (.int i) (.int j) = some (.int (i + j)) := id rfl
@[simp] theorem v_sub (i j : Int) : gSub (.int i) (.int j) = some (.int (i - j)) := id rfl
@[simp] theorem v_mul (i j : Int) : gMul (.int i) (.int j) = if IntMulOk i j then some (.int (i * j)) else none := id rfl
def divOk (j : Int) : Prop := 0 < j ∧ j.natAbs.log2 < 9000
instance (j : Int) : Decidable (divOk j) := inferInstanceAs (Decidable (0 < j ∧ j.natAbs.log2 < 9000))
theorem divOk_of {j : Int} {a : Nat} (h : 0 < j) (h2 : j.natAbs < 2 ^ a) (h3 : a ≤ 8999) : divOk j := ⟨h, by
  by_cases h0 : 0 < a
  · exact Nat.lt_of_lt_of_le (log_lt h2 h0) (by omega)
  · have e : a = 0 := by omega
    subst e
    have : (2 : Nat) ^ 0 = 1 := rfl
    omega⟩
theorem divOk_small {j : Int} (h : 0 < j) (h2 : j < 10 ^ 18) : divOk j := divOk_of (a := 64) h (by
  have : (10 : Int) ^ 18 < ((2 ^ 64 : Nat) : Int) := by decide
  omega) (by decide)
@[simp] theorem divOk_1 : divOk 1 := divOk_small (by decide) (by decide)
@[simp] theorem divOk_2 : divOk 2 := divOk_small (by decide) (by decide)
@[simp] theorem divOk_3 : divOk 3 := divOk_small (by decide) (by decide)
@[simp] theorem divOk_4 : divOk 4 := divOk_small (by decide) (by decide)
@[simp] theorem divOk_5 : divOk 5 := divOk_small (by decide) (by decide)
@[simp] theorem divOk_6 : divOk 6 := divOk_small (by decide) (by decide)
@[simp] theorem divOk_7 : divOk 7 := divOk_small (by decide) (by decide)
@[simp] theorem divOk_8 : divOk 8 := divOk_small (by decide) (by decide)
@[simp] theorem divOk_9 : divOk 9 := divOk_small (by decide) (by decide)
@[simp] theorem divOk_10 : divOk 10 := divOk_small (by decide) (by decide)
@[simp] theorem divOk_11 : divOk 11 := divOk_small (by decide) (by decide)
@[simp] theorem divOk_12 : divOk 12 := divOk_small (by decide) (by decide)
@[simp] theorem divOk_24 : divOk 24 := divOk_small (by decide) (by decide)
@[simp] theorem divOk_41 : divOk 41 := divOk_small (by decide) (by decide)
@[simp] theorem divOk_48 : divOk 48 := divOk_small (by decide) (by decide)
@[simp] theorem divOk_60 : divOk 60 := divOk_small (by decide) (by decide)
@[simp] theorem divOk_64 : divOk 64 := divOk_small (by decide) (by decide)
@[simp] theorem divOk_100 : divOk 100 := divOk_small (by decide) (by decide)
@[simp] theorem divOk_1000 : divOk 1000 := divOk_small (by decide) (by decide)
@[simp] theorem v_div (i j : Int) : gDiv (.int i) (.int j) = if divOk j then some (.int (i / j)) else none := id rfl
@[simp] theorem v_mod (i j : Int) : gMod (.int i) (.int j) = if 0 < j then some (.int (i % j)) else none := id rfl
def powOk (i j : Int) : Prop := 0 ≤ j ∧ (Builtin.Int.intBits i : Int) * j ≤ 2 ^ 27
instance (i j : Int) : Decidable (powOk i j) := inferInstanceAs (Decidable (0 ≤ j ∧ (Builtin.Int.intBits i : Int) * j ≤ 2 ^ 27))
theorem powOk_of {i j : Int} {a : Nat} (hi : i.natAbs < 2 ^ a) (h0 : 0 ≤ j) (h : (a : Int) * j ≤ 134217728) : powOk i j := ⟨h0, by
  have h1 := bits_le hi
  have h2 : (Builtin.Int.intBits i : Int) * j ≤ (a : Int) * j := Int.mul_le_mul_of_nonneg_right (by omega) h0
  omega⟩
@[simp] theorem powOk_10 {j : Int} (h0 : 0 ≤ j) (h : j ≤ 1000) : powOk 10 j := powOk_of (a := 4) (by decide) h0 (by omega)
@[simp] theorem powOk_2 {j : Int} (h0 : 0 ≤ j) (h : j ≤ 1000000) : powOk 2 j := powOk_of (a := 2) (by decide) h0 (by omega)
@[simp] theorem powOk_1e60 {j : Int} (h0 : 0 ≤ j) (h : j ≤ 1000) : powOk 1000000000000000000000000000000000000000000000000000000000000 j := powOk_of (a := 200) (by decide) h0 (by omega)
@[simp] theorem v_pow (i j : Int) : gPow (.int i) (.int j) = if powOk i j then some (.int (i ^ j.toNat)) else none := id rfl
@[simp] theorem v_lt (i j : Int) : gLt (.int i) (.int j) = some (.bl (decide (i < j))) := id rfl
@[simp] theorem v_le (i j : Int) : gLe (.int i) (.int j) = some (.bl (decide (i ≤ j))) := id rfl
@[simp] theorem v_gt (i j : Int) : gGt (.int i) (.int j) = some (.bl (decide (j < i))) := id rfl
@[simp] theorem v_ge (i j : Int) : gGe (.int i) (.int j) = some (.bl (decide (j ≤ i))) := id rfl
@[simp] theorem v_eqI (i j : Int) : gEq (.int i) (.int j) = some (.bl (decide (i = j))) := id rfl
@[simp] theorem v_neI (i j : Int) : gNe (.int i) (.int j) = some (.bl (!decide (i = j))) := id rfl
@[simp] theorem v_neg (i : Int) : gNeg (.int i) = some (.int (-i)) := id rfl
@[simp] theorem v_lenL (xs : List D) : gLen [.lst xs] = some (.int xs.length) := id rfl
@[simp] theorem v_lenT (xs : List D) : gLen [.tup xs] = some (.int xs.length) := id rfl
@[simp] theorem v_lenS (x : Str) : gLen [.str x] = if x.length ≤ sizeLine then some (.int x.length) else none := id rfl
@[simp] theorem v_min2 (i j : Int) : gMin2 [.int i, .int j] = some (.int (if j < i then j else i)) := id rfl
@[simp] theorem v_max2 (i j : Int) : gMax2 [.int i, .int j] = some (.int (if j > i then j else i)) := id rfl
@[simp] theorem v_ixL (xs : List D) (i : Int) : gIx (.lst xs) (.int i) = atI xs i := id rfl
@[simp] theorem v_ixT (xs : List D) (i : Int) : gIx (.tup xs) (.int i) = atI xs i := id rfl
@[simp] theorem v_revL (xs : List D) : gRev (.lst xs) = some (.lst xs.reverse) := id rfl
@[simp] theorem v_isi (n : String) (d : D) : gIsi n d = (tyN d).map fun t => .bl (isTy t n) := id rfl
@[simp] theorem v_isi2 (n m : String) (d : D) : gIsi2 n m d = (tyN d).map fun t => .bl (isTy t n || isTy t m) := id rfl
@[simp] theorem v_tyI (i : Int) : tyN (.int i) = some "int" := id rfl
@[simp] theorem v_tyB (i : Bool) : tyN (.bl i) = some "bool" := id rfl
@[simp] theorem v_tyS (i : Str) : tyN (.str i) = some "str" := id rfl
@[simp] theorem v_tyT (i : List D) : tyN (.tup i) = some "tuple" := id rfl
@[simp] theorem v_tyL (i : List D) : tyN (.lst i) = some "list" := id rfl
@[simp] theorem v_tyN : tyN .non = some "NoneType" := id rfl
@[simp] theorem v_isTy_NoneTypeNoneType : isTy "NoneType" "NoneType" = true := by decide
@[simp] theorem v_isTy_NoneTypebool : isTy "NoneType" "bool" = false := by decide
@[simp] theorem v_isTy_NoneTypeint : isTy "NoneType" "int" = false := by decide
@[simp] theorem v_isTy_NoneTypestr : isTy "NoneType" "str" = false := by decide
@[simp] theorem v_isTy_NoneTypetuple : isTy "NoneType" "tuple" = false := by decide
@[simp] theorem v_isTy_NoneTypelist : isTy "NoneType" "list" = false := by decide
@[simp] theorem v_isTy_boolNoneType : isTy "bool" "NoneType" = false := by decide
@[simp] theorem v_isTy_boolbool : isTy "bool" "bool" = true := by decide
@[simp] theorem v_isTy_boolint : isTy "bool" "int" = true := by decide
@[simp] theorem v_isTy_boolstr : isTy "bool" "str" = false := by decide
@[simp] theorem v_isTy_booltuple : isTy "bool" "tuple" = false := by decide
@[simp] theorem v_isTy_boollist : isTy "bool" "list" = false := by decide
@[simp] theorem v_isTy_intNoneType : isTy "int" "NoneType" = false := by decide
@[simp] theorem v_isTy_intbool : isTy "int" "bool" = false := by decide
@[simp] theorem v_isTy_intint : isTy "int" "int" = true := by decide
@[simp] theorem v_isTy_intstr : isTy "int" "str" = false := by decide
@[simp] theorem v_isTy_inttuple : isTy "int" "tuple" = false := by decide
@[simp] theorem v_isTy_intlist : isTy "int" "list" = false := by decide
@[simp] theorem v_isTy_strNoneType : isTy "str" "NoneType" = false := by decide
@[simp] theorem v_isTy_strbool : isTy "str" "bool" = false := by decide
@[simp] theorem v_isTy_strint : isTy "str" "int" = false := by decide
@[simp] theorem v_isTy_strstr : isTy "str" "str" = true := by decide
@[simp] theorem v_isTy_strtuple : isTy "str" "tuple" = false := by decide
@[simp] theorem v_isTy_strlist : isTy "str" "list" = false := by decide
@[simp] theorem v_isTy_tupleNoneType : isTy "tuple" "NoneType" = false := by decide
@[simp] theorem v_isTy_tuplebool : isTy "tuple" "bool" = false := by decide
@[simp] theorem v_isTy_tupleint : isTy "tuple" "int" = false := by decide
@[simp] theorem v_isTy_tuplestr : isTy "tuple" "str" = false := by decide
@[simp] theorem v_isTy_tupletuple : isTy "tuple" "tuple" = true := by decide
@[simp] theorem v_isTy_tuplelist : isTy "tuple" "list" = false := by decide
@[simp] theorem v_isTy_listNoneType : isTy "list" "NoneType" = false := by decide
@[simp] theorem v_isTy_listbool : isTy "list" "bool" = false := by decide
@[simp] theorem v_isTy_listint : isTy "list" "int" = false := by decide
@[simp] theorem v_isTy_liststr : isTy "list" "str" = false := by decide
@[simp] theorem v_isTy_listtuple : isTy "list" "tuple" = false := by decide
@[simp] theorem v_isTy_listlist : isTy "list" "list" = true := by decide
theorem small_line {n : Nat} (h : n ≤ 100000) : n ≤ sizeLine := Nat.le_trans h (by decide)
@[simp] theorem v_line0 : (0 : Nat) ≤ sizeLine := Nat.zero_le _
@[simp] theorem v_line1 : (1 : Nat) ≤ sizeLine := by decide
@[simp] theorem v_line2 : (2 : Nat) ≤ sizeLine := by decide
@[simp] theorem v_line3 : (3 : Nat) ≤ sizeLine := by decide
@[simp] theorem v_line4 : (4 : Nat) ≤ sizeLine := by decide
@[simp] theorem v_line5 : (5 : Nat) ≤ sizeLine := by decide
@[simp] theorem v_line6 : (6 : Nat) ≤ sizeLine := by decide
@[simp] theorem v_line7 : (7 : Nat) ≤ sizeLine := by decide
@[simp] theorem v_line8 : (8 : Nat) ≤ sizeLine := by decide
/-! ### reading a cell of the script -/
def cell (ns : List Int) (k : Nat) : Int := ns.getD k 0
end Fs

/-! F10: reckoning with lists of numbers, while loops, comprehensions. -/
namespace Fs
open PySem L2

abbrev iL (xs : List Int) : D := .lst (xs.map D.int)
theorem toPyL_ints : ∀ xs : List Int, toPyL (xs.map D.int) = some (xs.map PyData.int)
  | [] => by simp [toPyL]
  | x :: xs => by simp [toPyL, toPy, toPyL_ints xs]
theorem eqvAll_ints : ∀ xs ys : List Int, PyData.eqvAll (xs.map PyData.int) (ys.map PyData.int) = decide (xs = ys)
  | [], [] => by simp [PyData.eqvAll]
  | [], y :: ys => by simp [PyData.eqvAll]
  | x :: xs, [] => by simp [PyData.eqvAll]
  | x :: xs, y :: ys => by
    rw [List.map_cons, List.map_cons, PyData.eqvAll, eqvAll_ints xs ys, PyData.eqv]
    by_cases h : x = y <;> by_cases h2 : xs = ys <;> simp [h, h2]
theorem canLay_ints : ∀ xs : List Int, PyData.canLayAll0 (xs.map PyData.int) = true
  | [] => by simp [PyData.canLayAll0]
  | x :: xs => by simp [PyData.canLayAll0, PyData.canLay0, canLay_ints xs]
theorem depth_ints : ∀ xs : List Int, PyData.depthAll (xs.map PyData.int) = 0
  | [] => by simp [PyData.depthAll]
  | x :: xs => by simp [PyData.depthAll, PyData.depth, depth_ints xs]
theorem shaped_ints (xs : List Int) : SeqAt.shaped (.list (xs.map PyData.int)) = true := by
  simp [SeqAt.shaped, PyData.canLay0, PyData.depth, canLay_ints, depth_ints]
theorem eqO_L (xs ys : List Int) : eqO (.lst (xs.map D.int)) (.lst (ys.map D.int)) = some (decide (xs = ys)) := by
  have h : eqO (.lst (xs.map D.int)) (.lst (ys.map D.int)) = eqPy (.lst (xs.map D.int)) (.lst (ys.map D.int)) := by simp [eqO]
  rw [h]
  simp [eqPy, toPy, toPyL_ints, shaped_ints, PyData.eqv, eqvAll_ints]
@[simp] theorem v_eqL (xs ys : List Int) : gEq (.lst (xs.map D.int)) (.lst (ys.map D.int)) = some (.bl (decide (xs = ys))) := by simp [gEq, eqO_L]
@[simp] theorem v_neL (xs ys : List Int) : gNe (.lst (xs.map D.int)) (.lst (ys.map D.int)) = some (.bl (!decide (xs = ys))) := by simp [gNe, eqO_L]
@[simp] theorem v_eqL0 (xs : List Int) : gEq (.lst (xs.map D.int)) (.lst []) = some (.bl (decide (xs = []))) := v_eqL xs []
@[simp] theorem v_neL0 (xs : List Int) : gNe (.lst (xs.map D.int)) (.lst []) = some (.bl (!decide (xs = []))) := v_neL xs []
@[simp] theorem v_addL (xs ys : List D) : gAdd (.lst xs) (.lst ys) = if xs.length + ys.length ≤ sizeLine then some (.lst (xs ++ ys)) else none := rfl
/-- a loop over numbers whose turns go on -/
theorem forL {p : Pt} {body : S} {xs : List Int} {δ : Sl} (Inv : Nat → Sl → Prop) (h0 : Inv 0 δ)
    (hs : ∀ i (h : i < xs.length) δ, Inv i δ → ∃ δ1, bindP p (.int xs[i]) δ = some δ1 ∧ ∃ δ2, body δ1 = .nx δ2 ∧ Inv (i + 1) δ2) : ∃ δ', forD p body (xs.map D.int) δ = .nx δ' ∧ Inv xs.length δ' := by
  have z := forD_inv (p := p) (body := body) Inv (xs.map D.int) 0 δ h0 fun i d δ hd hi => by
    obtain ⟨h1, h2⟩ := List.getElem?_eq_some_iff.mp hd
    rw [List.length_map] at h1
    rw [List.getElem_map] at h2
    subst h2
    rw [Nat.zero_add] at hi ⊢
    exact hs i h1 δ hi
  rw [Nat.zero_add, List.length_map] at z
  exact z
/-- a while loop with a measure -/
theorem whileW {c : T} {body : S} (Inv : Sl → Prop) (μ : Sl → Nat)
    (hs : ∀ δ, Inv δ → c δ = .ok false ∨ (c δ = .ok true ∧ ∃ δ2, body δ = .nx δ2 ∧ Inv δ2 ∧ μ δ2 < μ δ)) : ∀ (n : Nat) (δ : Sl), Inv δ → μ δ < n → ∃ δ', whileD c body n δ = .nx δ' ∧ Inv δ' ∧ c δ' = .ok false
  | 0, δ, _, h => by omega
  | n + 1, δ, hi, h => by
    rcases hs δ hi with hc | ⟨hc, δ2, hb, hi2, hm⟩
    · exact ⟨δ, by simp only [whileD, hc], hi, hc⟩
    · obtain ⟨δ', e, h2⟩ := whileW Inv μ hs n δ2 hi2 (by omega)
      exact ⟨δ', by simp only [whileD, hc, hb, e], h2⟩
theorem lcD_map {p : Pt} {c : T} {e : E} {δ : Sl} (f : D → D) : ∀ (items : List D), (∀ d ∈ items, ∃ δ1, bindP p d δ = some δ1 ∧ c δ1 = .ok true ∧ e δ1 = .ok (f d)) → lcD p c e δ items = .ok (items.map f)
  | [], _ => rfl
  | d :: ds, h => by
    obtain ⟨δ1, e1, e2, e3⟩ := h d (by simp)
    have ih := lcD_map f ds fun x hx => h x (by simp [hx])
    simp only [lcD, e1, e2, e3, ih, List.map_cons]
theorem lcD_filter {p : Pt} {c : T} {e : E} {δ : Sl} (q : D → Bool) (f : D → D) : ∀ (items : List D), (∀ d ∈ items, ∃ δ1, bindP p d δ = some δ1 ∧ c δ1 = .ok (q d) ∧ e δ1 = .ok (f d)) → lcD p c e δ items = .ok ((items.filter q).map f)
  | [], _ => rfl
  | d :: ds, h => by
    obtain ⟨δ1, e1, e2, e3⟩ := h d (by simp)
    have ih := lcD_filter q f ds fun x hx => h x (by simp [hx])
    cases hq : q d
    · rw [hq] at e2
      simp only [lcD, e1, e2, ih, List.filter_cons, hq, Bool.false_eq_true, if_false]
    · rw [hq] at e2
      simp only [lcD, e1, e2, e3, ih, List.filter_cons, hq, if_true, List.map_cons]
end Fs

/-! F11: lists of natural numbers, parts of lists. -/
namespace Fs
open PySem L2
def nD (xs : List Nat) : List D := xs.map fun (x : Nat) => D.int (x : Int)
@[simp] theorem nD_length (xs : List Nat) : (nD xs).length = xs.length := by simp [nD]
@[simp] theorem nD_nil : nD [] = [] := rfl
theorem nD_cons (x : Nat) (xs : List Nat) : nD (x :: xs) = .int x :: nD xs := rfl
theorem nD_app (xs ys : List Nat) : nD (xs ++ ys) = nD xs ++ nD ys := by simp [nD]
theorem nD_snoc (xs : List Nat) (y : Nat) : nD (xs ++ [y]) = nD xs ++ [D.int y] := by simp [nD]
theorem nD_rev (xs : List Nat) : nD xs.reverse = (nD xs).reverse := by simp [nD]
theorem nD_eq (xs : List Nat) : nD xs = (xs.map fun (x : Nat) => (x : Int)).map D.int := by simp [nD]
theorem nD_at (xs : List Nat) {k : Nat} (h : k < xs.length) : atI (nD xs) (k : Int) = some (.int (xs[k] : Nat)) := by
  rw [atI_ofNat _ (by simpa using h)]
  simp [nD]
theorem nD_atD (xs : List Nat) {k : Nat} (h : k < xs.length) : atI (nD xs) (k : Int) = some (.int (xs.getD k 0 : Nat)) := by
  rw [nD_at xs h]
  simp [List.getD, h]
theorem natL_inj : ∀ {xs ys : List Nat}, (xs.map fun (x : Nat) => (x : Int)) = ys.map (fun (x : Nat) => (x : Int)) ↔ xs = ys
  | [], [] => by simp
  | [], y :: ys => by simp
  | x :: xs, [] => by simp
  | x :: xs, y :: ys => by
    simp only [List.map_cons, List.cons.injEq, natL_inj (xs := xs) (ys := ys)]
    constructor
    · rintro ⟨h1, h2⟩
      exact ⟨by omega, h2⟩
    · rintro ⟨h1, h2⟩
      exact ⟨by rw [h1], h2⟩
@[simp] theorem v_eqN (xs ys : List Nat) : gEq (.lst (nD xs)) (.lst (nD ys)) = some (.bl (decide (xs = ys))) := by
  rw [nD_eq, nD_eq, v_eqL]
  simp only [natL_inj]
@[simp] theorem v_neN (xs ys : List Nat) : gNe (.lst (nD xs)) (.lst (nD ys)) = some (.bl (!decide (xs = ys))) := by
  rw [nD_eq, nD_eq, v_neL]
  simp only [natL_inj]
@[simp] theorem v_eqN0 (xs : List Nat) : gEq (.lst (nD xs)) (.lst []) = some (.bl (decide (xs = []))) := v_eqN xs []
@[simp] theorem v_neN0 (xs : List Nat) : gNe (.lst (nD xs)) (.lst []) = some (.bl (!decide (xs = []))) := v_neN xs []
@[simp] theorem v_eqB (a b : Bool) : gEq (.bl a) (.bl b) = some (.bl (decide (a = b))) := id rfl
@[simp] theorem v_neB (a b : Bool) : gNe (.bl a) (.bl b) = some (.bl (!decide (a = b))) := id rfl
@[simp] theorem v_eq00 : gEq (.lst []) (.lst []) = some (.bl true) := (v_eqN [] []).trans (by simp)
@[simp] theorem v_ne00 : gNe (.lst []) (.lst []) = some (.bl false) := (v_neN [] []).trans (by simp)
@[simp] theorem v_gListL (xs : List D) : gList [.lst xs] = some (.lst xs) := id rfl
@[simp] theorem v_gListT (xs : List D) : gList [.tup xs] = some (.lst xs) := id rfl
@[simp] theorem v_gTupleL (xs : List D) : gTuple [.lst xs] = some (.tup xs) := id rfl
@[simp] theorem v_sDrop (f : E) (δ : Sl) : sDrop f δ = sBind (f δ) δ fun _ => .nx δ := id rfl
@[simp] theorem v_gIntI (i : Int) : gInt [.int i] = some (.int i) := id rfl
@[simp] theorem v_gIntB (b : Bool) : gInt [.bl b] = some (.int (if b then 1 else 0)) := id rfl
@[simp] theorem v_gslL (xs : List D) (lo hi : Option Int) : gSl (.lst xs) lo hi = some (.lst (cutD xs lo hi)) := id rfl
/-- a part of any list -/
def cutL {α : Type} (xs : List α) (lo hi : Option Int) : List α := (xs.drop (HT.sIx xs.length 0 lo)).take (HT.sIx xs.length xs.length hi - HT.sIx xs.length 0 lo)
theorem cutD_map {α : Type} (f : α → D) (xs : List α) (lo hi : Option Int) : cutD (xs.map f) lo hi = (cutL xs lo hi).map f := by
  simp [cutD, cutL, List.map_take, List.map_drop]
@[simp] theorem cutD_ints (xs : List Int) (lo hi : Option Int) : cutD (xs.map D.int) lo hi = (cutL xs lo hi).map D.int := cutD_map _ _ _ _
@[simp] theorem cutD_nD (xs : List Nat) (lo hi : Option Int) : cutD (nD xs) lo hi = nD (cutL xs lo hi) := cutD_map _ _ _ _
theorem cutL_sub {α : Type} {xs : List α} {lo hi : Option Int} {x : α} (h : x ∈ cutL xs lo hi) : x ∈ xs := List.mem_of_mem_drop (List.mem_of_mem_take h)
theorem cutL_len {α : Type} (xs : List α) (lo hi : Option Int) : (cutL xs lo hi).length ≤ xs.length := by
  simp only [cutL, List.length_take, List.length_drop]
  omega
theorem cutL_nn {α : Type} (xs : List α) (a b : Nat) : cutL xs (some (a : Int)) (some (b : Int)) = (xs.drop a).take (b - a) := by
  simp only [cutL, HT.sIx_nat]
  by_cases h : a ≤ xs.length
  · rw [Nat.min_eq_left h]
    by_cases h2 : b ≤ xs.length
    · rw [Nat.min_eq_left h2]
    · rw [Nat.min_eq_right (by omega), List.take_of_length_le (by simp), List.take_of_length_le (by simp; omega)]
  · have e : min a xs.length = xs.length := by omega
    rw [e, List.drop_of_length_le (Nat.le_refl _), List.drop_of_length_le (by omega)]
    simp
theorem cutL_lo {α : Type} (xs : List α) (a : Nat) : cutL xs (some (a : Int)) none = xs.drop a := by
  simp only [cutL, HT.sIx_nat, HT.sIx_none]
  by_cases h : a ≤ xs.length
  · rw [Nat.min_eq_left h, List.take_of_length_le (by simp)]
  · have e : min a xs.length = xs.length := by omega
    rw [e, List.drop_of_length_le (Nat.le_refl _), List.drop_of_length_le (by omega)]
    simp
theorem cutL_hi {α : Type} (xs : List α) (b : Nat) : cutL xs none (some (b : Int)) = xs.take b := by
  simp only [cutL, HT.sIx_nat, HT.sIx_none, List.drop_zero, Nat.sub_zero]
  by_cases h : b ≤ xs.length
  · rw [Nat.min_eq_left h]
  · rw [Nat.min_eq_right (by omega), List.take_of_length_le (by simp), List.take_of_length_le (by omega)]
end Fs

/-! F12: zip of two lists, of two tuples. -/
namespace Fs
open PySem L2
def zipD (xs ys : List D) : List D := List.zipWith (fun x y => .tup [x, y]) xs ys
theorem zipD_get {xs ys : List D} {i : Nat} (hi : i < (zipD xs ys).length) : ∃ x y, xs[i]? = some x ∧ ys[i]? = some y ∧ (zipD xs ys)[i]? = some (.tup [x, y]) := by
  have h1 : i < xs.length ∧ i < ys.length := by
    simp only [zipD, List.length_zipWith] at hi
    omega
  exact ⟨xs[i], ys[i], List.getElem?_eq_getElem h1.1, List.getElem?_eq_getElem h1.2, by simp [zipD, List.getElem?_zipWith, h1.1, h1.2]⟩
section
variable {K : PySem.W.Frag} {G : Hp} {a b : Addr} {vs us : List V} {ds es : List D}
theorem itOk_zip (h : SqL K G a vs) (h2 : SqL K G b us) (r : RepL K G ds vs) (r2 : RepL K G es us) : ItOk K (Itz K a b) G (zipD ds es) where
  go := fun i H s hi => by
    obtain ⟨x, y, e1, e2, _⟩ := zipD_get hi
    obtain ⟨v, e3, _⟩ := r.get e1
    obtain ⟨u, e4, _⟩ := r2.get e2
    exact ⟨vs, us, v, u, s.seq h, s.seq h2, e3, e4⟩
  stop := fun i H s hi => by
    have := hi
    simp only [zipD, List.length_zipWith] at this
    have hl := r.length
    have hl2 := r2.length
    exact ⟨vs, us, s.seq h, s.seq h2, by omega⟩
  yld := fun i H x H' Gc s1 s2 hi y => by
    obtain ⟨dx, dy, e1, e2, e5⟩ := zipD_get hi
    obtain ⟨v, e3, rv⟩ := r.get e1
    obtain ⟨u, e4, ru⟩ := r2.get e2
    obtain ⟨T, x0, y0, rfl, hT, rfl, y1, y2⟩ := y
    have z := y1 vs ((s1.trans s2).seq h)
    rw [e3] at z
    cases z
    have z2 := y2 us ((s1.trans s2).seq h2)
    rw [e4] at z2
    cases z2
    exact ⟨.tup [dx, dy], upd Gc T (.tup [v, u]), e5, Stp.new s2 hT _, .tup (SqT.of upd_same) (.cons ((rv.mono s1).mono (same_new (s2.free hT) _)) (.cons ((ru.mono s1).mono (same_new (s2.free hT) _)) .nil))⟩
theorem itOk_zipT (h : SqT K G a vs) (h2 : SqT K G b us) (r : RepL K G ds vs) (r2 : RepL K G es us) : ItOk K (RZ.ItzT K a b) G (zipD ds es) where
  go := fun i H s hi => by
    obtain ⟨x, y, e1, e2, _⟩ := zipD_get hi
    obtain ⟨v, e3, _⟩ := r.get e1
    obtain ⟨u, e4, _⟩ := r2.get e2
    exact ⟨vs, us, v, u, sqt_mono s h, sqt_mono s h2, e3, e4⟩
  stop := fun i H s hi => by
    have := hi
    simp only [zipD, List.length_zipWith] at this
    have hl := r.length
    have hl2 := r2.length
    exact ⟨vs, us, sqt_mono s h, sqt_mono s h2, by omega⟩
  yld := fun i H x H' Gc s1 s2 hi y => by
    obtain ⟨dx, dy, e1, e2, e5⟩ := zipD_get hi
    obtain ⟨v, e3, rv⟩ := r.get e1
    obtain ⟨u, e4, ru⟩ := r2.get e2
    obtain ⟨T, x0, y0, rfl, hT, rfl, y1, y2⟩ := y
    have z := y1 vs (sqt_mono (s1.trans s2) h)
    rw [e3] at z
    cases z
    have z2 := y2 us (sqt_mono (s1.trans s2) h2)
    rw [e4] at z2
    cases z2
    exact ⟨.tup [dx, dy], upd Gc T (.tup [v, u]), e5, Stp.new s2 hT _, .tup (SqT.of upd_same) (.cons ((rv.mono s1).mono (same_new (s2.free hT) _)) (.cons ((ru.mono s1).mono (same_new (s2.free hT) _)) .nil))⟩
end
def iZipD (a : As) : As := fun δ => (a δ).bind fun ds => match ds with
  | [.lst xs, .lst ys] => .ok (zipD xs ys)
  | [.tup xs, .tup ys] => .ok (zipD xs ys)
  | _ => .stk
theorem si_zip {X : Cx} {C : Cc} {e e2 : Expr} {f : As} {p pos tpos : Pos} {elts : List Expr} {kk : Nat} (hg : Gl X "zip") (hm : X.mg "zip" = none) (ha : SA X C [e, e2] f)
    (hs : starEach [e, e2] X.env = (false, eval e X.env) :: starEach [e2] X.env := by rfl) (hpl : (backTo pos (starEach [e2] X.env)).any (·.1) = false := by rfl) :
    SI X C (.Tuple elts kk tpos) (.Call (.Name "zip" p) [e, e2] [] pos) (iZipD f) :=
  pi_weak (RZ.pi_zipA hg hm ha hs hpl) fun σ H R ⟨δ, G, re, h⟩ => ⟨δ, G, re, onA_mono (onA_AI h) fun ds vs G1 H1 s1 r1 h1 => by
    split at h1
    · cases r1 with
      | cons r2 r3 =>
        cases r3 with
        | cons r4 r5 =>
          cases r5
          cases r2 with
          | @lst a us _ pp q =>
            cases r4 with
            | @lst b us2 _ pp2 q2 => exact ⟨a, b, us, us2, rfl, .inl ⟨s1.sub.seq pp, s1.sub.seq pp2, h1 _ G1 H1 (Stp.refl s1.sub) (itOk_zip pp pp2 q q2)⟩⟩
    · cases r1 with
      | cons r2 r3 =>
        cases r3 with
        | cons r4 r5 =>
          cases r5
          cases r2 with
          | @tup a us _ pp q =>
            cases r4 with
            | @tup b us2 _ pp2 q2 => exact ⟨a, b, us, us2, rfl, .inr ⟨sqt_mono s1.sub pp, sqt_mono s1.sub pp2, h1 _ G1 H1 (Stp.refl s1.sub) (itOk_zipT pp pp2 q q2)⟩⟩
    · exact h1.elim⟩
@[simp] theorem v_iZipD (a : As) (δ : Sl) : iZipD a δ = (a δ).bind fun ds => match ds with | [.lst xs, .lst ys] => .ok (zipD xs ys) | [.tup xs, .tup ys] => .ok (zipD xs ys) | _ => .stk := id rfl
end Fs

/-! F13: what is never reached; own lists that are looked at; items stored; raise and try. -/
namespace Fs
open PySem L2
section
variable {X : Cx} {C : Cc} {pos : Pos}
def eStk : E := fun _ => .stk
theorem se_never {e : Expr} : SE X C e eStk := ⟨fun pins s σ H Q I ⟨δ, G, re, h⟩ => h.elim⟩

/-! ### an own list that is looked at, and does not leave -/
def delH (G : Hp) (p : Addr) : Hp := fun a => if a = p then none else G a
mutual
def flat : D → Bool
  | .lst _ => false
  | .tup xs => flats xs
  | .dct _ _ => false
  | _ => true
def flats : List D → Bool
  | [] => true
  | d :: ds => flat d && flats ds
end
theorem rd_del {G : Hp} {a p : Addr} {u : HO} (h : Rd G a u) (hp : ∀ o, G p = some o → ∃ vs, o = .lst vs) (hu : ∀ vs, u ≠ .lst vs) : Rd (delH G p) a u := by
  have key : ∀ o, G a = some o → (∀ vs, o ≠ .lst vs) → delH G p a = some o := fun o ho hn => by
    unfold delH
    rw [if_neg (fun z => by
      subst z
      obtain ⟨vs, e⟩ := hp o ho
      exact hn vs e)]
    exact ho
  rcases h with h | ⟨o, h⟩
  · exact .inl (key _ h hu)
  · exact .inr ⟨o, key _ h fun vs z => nomatch z⟩
theorem sqt_del {K : PySem.W.Frag} {G : Hp} {a p : Addr} {xs : List V} (h : SqT K G a xs) (hp : ∀ o, G p = some o → ∃ vs, o = .lst vs) : SqT K (delH G p) a xs := by
  rcases h with h | h
  · exact .inl (rd_del h hp fun vs z => nomatch z)
  · exact .inr h
mutual
theorem Rep.del {K : PySem.W.Frag} {G : Hp} {p : Addr} (hp : ∀ o, G p = some o → ∃ vs, o = .lst vs) : ∀ {d : D} {v : V}, flat d = true → Rep K G d v → Rep K (delH G p) d v
  | _, _, _, .non => .non
  | _, _, _, .bl b => .bl b
  | _, _, _, .int i => .int i
  | _, _, _, .str x => .str x
  | _, _, _, .fn a => .fn a
  | _, _, hf, .tup h r => .tup (sqt_del h hp) (RepL.del hp (by simpa [flat] using hf) r)
  | _, _, hf, .lst h r => by simp [flat] at hf
  | _, _, hf, .dct h l r => by simp [flat] at hf
theorem RepL.del {K : PySem.W.Frag} {G : Hp} {p : Addr} (hp : ∀ o, G p = some o → ∃ vs, o = .lst vs) : ∀ {ds : List D} {vs : List V}, flats ds = true → RepL K G ds vs → RepL K (delH G p) ds vs
  | _, _, _, .nil => .nil
  | _, _, hf, .cons h r => by
    simp only [flats, Bool.and_eq_true] at hf
    exact .cons (Rep.del hp hf.1 h) (RepL.del hp hf.2 r)
end
theorem Stp.del {G H G' H' : Hp} {p : Addr} {u : HO} (gp : G p = none) (t : Stp (upd G p u) H G' H') : Stp G H (delH G' p) H' := by
  refine ⟨fun b o hb => ?_, t.h, fun b o hb => ?_, fun b hb => ?_⟩
  · have hne : b ≠ p := ne_of_none hb gp
    unfold delH
    rw [if_neg hne]
    exact t.g b o (by rw [upd_ne hne]; exact hb)
  · unfold delH at hb
    split at hb
    · exact nomatch hb
    · exact t.sub b o hb
  · unfold delH at hb
    split at hb
    · exact absurd rfl hb
    · rename_i hne
      rcases t.nw b hb with h | h
      · rw [upd_ne hne] at h
        exact .inl h
      · exact .inr h
def bare : R D → R D
  | .ok d => if flat d = true then .ok d else .stk
  | .exc e => if e.fs.isEmpty = true then .exc e else .stk
  | .stk => .stk
def bareT : R Bool → R Bool
  | .ok d => .ok d
  | .exc e => if e.fs.isEmpty = true then .exc e else .stk
  | .stk => .stk
def eBor (i : Nat) (f : E) : E := fun δ => match δ[i]? with
  | some (.own xs) => bare (f (δ.set i (.v (.lst xs))))
  | _ => f δ
def tBr (i : Nat) (f : T) : T := fun δ => match δ[i]? with
  | some (.own xs) => bareT (f (δ.set i (.v (.lst xs))))
  | _ => f δ
theorem lst_of_upd {G H G' H' : Hp} {p : Addr} {vs : List V} (t : Stp (upd G p (.lst vs)) H G' H') : ∀ o, G' p = some o → ∃ vs, o = .lst vs := fun o ho => by
  have h1 := t.g p _ upd_same
  rw [h1] at ho
  exact ⟨vs, (Option.some.inj ho).symm⟩
theorem onX_bor {K : PySem.W.Frag} {σ : L2.St} {G H : Hp} {p : Addr} {vs : List V} {e : Ex} (gp : G p = none) (he : e.fs.isEmpty = true) (h : onX K C σ G H e) : onX K C σ (upd G p (.lst vs)) H e := fun cls dd G' H' t rx => by
  refine h cls dd (delH G' p) H' (t.del gp) ⟨rx.1, ?_⟩
  have he' : e.fs = [] := List.isEmpty_iff.mp he
  rcases rx.2 with ⟨h1, h2⟩ | ⟨hne, _⟩
  · exact .inl ⟨h1, h2⟩
  · exact absurd he' hne
theorem lift_bor {K : PySem.W.Frag} {i : Nat} {f : E} {σ : L2.St} {H : Hp} {Q : VK} (h : liftE K C (eBor i f) σ H Q) : liftE K C f σ H Q := by
  obtain ⟨δ, G, re, h⟩ := h
  unfold eBor at h
  cases q : δ[i]? with
  | none => rw [q] at h; exact ⟨δ, G, re, h⟩
  | some sl =>
    rw [q] at h
    cases sl with
    | un => exact ⟨δ, G, re, h⟩
    | v d => exact ⟨δ, G, re, h⟩
    | own xs =>
      obtain ⟨p, vs, _, _, gp, _, re2⟩ := re.frz i q
      refine ⟨_, _, re2, ?_⟩
      simp only at h
      cases ef : f (δ.set i (.v (.lst xs))) with
      | stk => rw [ef] at h; exact h.elim
      | ok d =>
        rw [ef] at h
        simp only [bare] at h
        split at h
        · rename_i hf
          exact fun v G' H' t r => h v (delH G' p) H' (t.del gp) (r.del (lst_of_upd t) hf)
        · exact h.elim
      | exc e =>
        rw [ef] at h
        simp only [bare] at h
        split at h
        · rename_i hf
          exact onX_bor gp hf h
        · exact h.elim
theorem se_bor (i : Nat) {e : Expr} {f : E} (h : SE X C e f) : SE X C e (eBor i f) := pe_weak h fun σ H Q z => lift_bor z
theorem lift_borT {K : PySem.W.Frag} {i : Nat} {f : T} {σ : L2.St} {H : Hp} {Q : Bool → Hp → Prop} (h : liftT K C (tBr i f) σ H Q) : liftT K C f σ H Q := by
  obtain ⟨δ, G, re, h⟩ := h
  unfold tBr at h
  cases q : δ[i]? with
  | none => rw [q] at h; exact ⟨δ, G, re, h⟩
  | some sl =>
    rw [q] at h
    cases sl with
    | un => exact ⟨δ, G, re, h⟩
    | v d => exact ⟨δ, G, re, h⟩
    | own xs =>
      obtain ⟨p, vs, _, _, gp, _, re2⟩ := re.frz i q
      refine ⟨_, _, re2, ?_⟩
      simp only at h
      cases ef : f (δ.set i (.v (.lst xs))) with
      | stk => rw [ef] at h; exact h.elim
      | ok d =>
        rw [ef] at h
        exact fun G' H' t => h (delH G' p) H' (t.del gp)
      | exc e =>
        rw [ef] at h
        simp only [bareT] at h
        split at h
        · rename_i hf
          exact onX_bor gp hf h
        · exact h.elim
theorem st_bor (i : Nat) {e : Expr} {f : T} (h : ST X C e f) : ST X C e (tBr i f) := pt_weak h fun σ H Q z => lift_borT z

/-! ### x[i] = e of an own list -/
theorem ss_setIx (i : Nat) {x : Str} {p1 p2 : Pos} {a e : Expr} {fa fe : E} (hi : SE X C a fa) (he : SE X C e fe) (hN : X.N[i]? = some x := by rfl) (hv : Vis X.env.scope x := by first | exact Or.inl rfl | exact Or.inr (Or.inl rfl) | exact Or.inr (Or.inr rfl)) (hd : (x == ("__debug__" : Str)) = false := by decide)
    (hcd : (x == ("__classdict__" : Str)) = false := by decide)
    (ha : ∀ v, assign (.Subscript (.Name x p1) a p2) X.env v = (do
      let ov ← holding [v] (eval (.Name x p1) X.env)
      let iv ← holding [v, ov] (eval a X.env)
      standAt p2
      holding [v, ov, iv] (setItem ov iv v)
      release [v, ov, iv] []) := by intro _; rfl)
    (hs : swapsWithSole [.Subscript (.Name x p1) a p2] e pos.line X.env = pure false := by rfl) (hw : swappedStores [.Subscript (.Name x p1) a p2] e X.env = pure none := by rfl)
    (h1 : (assignEach [.Subscript (.Name x p1) a p2] X.env).map (·.2) = [assign (.Subscript (.Name x p1) a p2) X.env] := by rfl) :
    SS X C (.Assign [.Subscript (.Name x p1) a p2] e pos) (sSetIx i fa fe) :=
  ps_weak (ps_asg he (pg_sub (pe_var hN hv hd hcd) hi set_list ha) hs hw h1) fun Dn σ H ⟨δ, G, re, h⟩ => by
    unfold sSetIx at h
    refine ⟨δ, G, re, onR_mono (onS_R re h) fun d v G1 H1 s1 r1 h1 => ?_⟩
    cases q : δ[i]? with
    | none => rw [q] at h1; exact h1.elim
    | some sl =>
      rw [q] at h1
      cases sl with
      | un => exact h1.elim
      | v d => exact h1.elim
      | own xs =>
        have re1 := re.step s1
        obtain ⟨p, vs, e0, h0, g0, hh, r0⟩ := re1.ownd q
        refine ⟨.ref p, e0, δ, G1, re1, onR_mono (onS_R re1 h1) fun z u G2 H2 s2 r2 h2 => ?_⟩
        cases r2 with
        | int k =>
          simp only at h2
          cases qi : ixN xs.length k with
          | none => rw [qi] at h2; exact h2.elim
          | some j =>
            rw [qi] at h2
            have hl := r0.length
            exact ⟨p, vs, k, j, rfl, rfl, s2.h _ _ hh, by rw [← hl]; exact qi, h2 σ G2 _ ((re1.step s2).mutO i q e0 ((r0.mono s2.g).set j (r1.mono s2.g))) (Same.refl _)⟩
        | non => exact h2.elim
        | bl b => exact h2.elim
        | str x => exact h2.elim
        | fn x => exact h2.elim
        | dct p l q => exact h2.elim
        | tup p q => exact h2.elim
        | lst p q => exact h2.elim
end
end Fs

/-! F14: raise of an own class, try .. except. -/
namespace Fs
open PySem L2
/-- what is known of an own class of the program, over ValueError, without own __init__ -/
structure XC (K : PySem.W.Frag) (mg : Str → Option Value) (ct : String → Addr) (cn : String) : Prop where
  g : mg (Str.ofString cn) = some (.ref (ct cn))
  k : PySem.W.keepIn K (.ref (ct cn)) = true
  q : PySem.W.excIn K (ct cn) [.type "ValueError", .type "Exception", .type "BaseException", .type "object"] "ValueError.__new__" = true
  b : PySem.W.subIn K (.ref (ct cn)) (.type "BaseException") = some true
  t : PySem.W.typeIn K (.ref (ct cn)) = some (.type "type")
  d : PySem.W.hasDictIn K (ct cn) = true
section
variable {X : Cx} {C : Cc} {pos : Pos}
def sRaise (cn : String) : S := fun δ => .exc ⟨cn, []⟩ δ
theorem ss_raise {cn : String} {m : Str} {j : Nat} {p p2 p3 : Pos} (hc : X.calm = true) (tk : Takes X C.W) (c : XC X.K X.mg C.ct cn) (hg : Gl X (Str.ofString cn)) (hdb : ((Str.ofString cn) == ("__debug__" : Str)) = false := by decide) :
    SS X C (.Raise (some (.Call (.Name (Str.ofString cn) p) [.Constant (.str m) j p2] [] p3)) none pos) (sRaise cn) :=
  ps_weak (ps_raise hc tk (pmk_own PySem.F.excBase_ValueError c.q c.g c.k (raises_own c.b c.t) hg hdb)) fun Dn σ H ⟨δ, G, re, h⟩ => h _ none σ G H re (Same.refl _) ⟨rfl, .inl ⟨rfl, rfl⟩⟩
/-- which classes the clause takes: by pairs -/
def XT (K : PySem.W.Frag) (ct : String → Addr) (c : Addr) (t : String → Option Bool) : Prop := ∀ s b, t s = some b → PySem.W.exmOne K (.ref (ct s)) (.ref c) = some b
theorem xt_sub {K : PySem.W.Frag} {ct : String → Addr} {c : Addr} (hb : PySem.W.subIn K (.ref c) (.type "BaseException") = some true) (hd : PySem.W.hasDictIn K c = true) (ht : PySem.W.typeIn K (.ref c) = some (.type "type")) {s : String} {b : Bool} (h : PySem.W.subIn K (.ref (ct s)) (.ref c) = some b) :
    PySem.W.exmOne K (.ref (ct s)) (.ref c) = some b := PySem.W.exm_ref hb hd ht h
def sTry (t : String → Option Bool) (fb fs : S) : S := fun δ => match fb δ with
  | .exc e δ' => match t e.cls with
    | some true => (match fs δ' with
      | .exc _ _ => .stk
      | r => r)
    | some false => .exc e δ'
    | none => .stk
  | r => r
theorem RE.wish2 {K : PySem.W.Frag} {G0 H0 : Hp} {ct : String → Addr} {W W' : WX} {σ : L2.St} {δ : Sl} {G H : Hp} (r : RE K ⟨G0, H0, ct, W⟩ σ δ G H) : RE K ⟨G0, H0, ct, W'⟩ σ δ G H := ⟨r.st, r.len, r.sl, r.sep⟩
theorem onS_wish {K : PySem.W.Frag} {C : Cc} {W : WX} {G : Hp} {r : RS} {Dn : Ends} (h : onS K C G r Dn) (hx : ∀ e δ, r ≠ .exc e δ) : onS K { C with W := W } G r Dn := by
  cases r with
  | nx δ => exact fun σ' G' H' re z => h σ' G' H' re.wish2 z
  | bk δ => exact fun σ' G' H' re z => h σ' G' H' re.wish2 z
  | ct δ => exact fun σ' G' H' re z => h σ' G' H' re.wish2 z
  | rt d => exact h
  | exc e δ => exact absurd rfl (hx e δ)
  | stk => exact h
theorem ss_try_only {x : Str} {c : Addr} {t : String → Option Bool} {body suite : List Stmt} {b₀ : Stmt} {np pos' : Pos} {fb fs : S} (hs : X.stack = X.env :: X.outer) (hf : X.env.frame = some X.env.locals) (hc : Names X x (.ref c)) (tk : Takes X C.W) (ht : XT X.K C.ct c t)
    (hb : ∀ (W : WX) (pn : List (Addr × Obj)) (xe : Value → Shared → Prop), Takes (X.tr pn xe) W → PassesOwn (model X.prog X.w) X.A X.env xe → SSs (X.tr pn xe) { C with W := W } body fb)
    (hsu : ∀ (a : Addr) (oe : Obj) (cls : Value) (d : Option Addr) (pn : List (Addr × Obj)), Zc cls d oe → (∃ vs, oe.data = .fields vs) → SSs (X.suite a ((a, oe) :: pn)) C.nox (b₀ :: suite) fs) :
    SS X C (.Try body [.ExceptHandler (some (.Name x np)) none (b₀ :: suite) pos'] [] [] pos) (sTry t fb fs) :=
  ps_weak (ps_try_only (tb := fun W => liftS X.K { C with W := W } fb) (ts := fun _ _ _ => liftS X.K C.nox fs) hs hf hc tk hb hsu) fun Dn σ H ⟨δ, G, re, h⟩ => by
    refine ⟨δ, G, re.wish2, ?_⟩
    unfold sTry at h
    cases e : fb δ with
    | nx δ' => rw [e] at h; exact fun σ' G' H' re z => h σ' G' H' re.wish2 z
    | bk δ' => rw [e] at h; exact fun σ' G' H' re z => h σ' G' H' re.wish2 z
    | ct δ' => rw [e] at h; exact fun σ' G' H' re z => h σ' G' H' re.wish2 z
    | rt d => rw [e] at h; exact h
    | stk => rw [e] at h; exact h.elim
    | exc ex δ' =>
      rw [e] at h
      simp only at h
      intro cls dd σ' G' H' re' sg rx
      cases q : t ex.cls with
      | none => rw [q] at h; exact h.elim
      | some b =>
        rw [q] at h
        refine ⟨b, by rw [rx.1]; exact ht _ _ q, fun hb => ?_, fun hb => ?_⟩
        · subst hb
          intro a _
          refine ⟨δ', G', re'.wish2, ?_⟩
          have h2 : ∀ r : RS, fs δ' = r → onS X.K C G (match r with | .exc _ _ => .stk | r => r) Dn → onS X.K C.nox G' r Dn := by
            intro r _ h2
            cases r with
            | exc e2 δ2 => exact h2.elim
            | nx δ2 => exact onS_wish (onS_same sg h2) fun _ _ z => nomatch z
            | bk δ2 => exact onS_wish (onS_same sg h2) fun _ _ z => nomatch z
            | ct δ2 => exact onS_wish (onS_same sg h2) fun _ _ z => nomatch z
            | rt d => exact onS_wish (onS_same sg h2) fun _ _ z => nomatch z
            | stk => exact h2.elim
          exact h2 _ rfl h
        · subst hb
          exact h cls dd σ' G' H' re'.wish2 sg rx
end
@[simp] theorem v_sTry (t : String → Option Bool) (fb fs : S) (δ : Sl) : sTry t fb fs δ = (match fb δ with
  | .exc e δ' => match t e.cls with
    | some true => (match fs δ' with
      | .exc _ _ => .stk
      | r => r)
    | some false => .exc e δ'
    | none => .stk
  | r => r) := id rfl
@[simp] theorem v_sRaise (cn : String) (δ : Sl) : sRaise cn δ = .exc ⟨cn, []⟩ δ := id rfl
@[simp] theorem v_sSetIx (i : Nat) (fi f : E) (δ : Sl) : sSetIx i fi f δ = sBind (f δ) δ fun d => match δ[i]? with
  | some (.own xs) => sBind (fi δ) δ fun z => match z with
    | .int k => match ixN xs.length k with
      | some j => .nx (δ.set i (.own (xs.set j d)))
      | none => .stk
    | _ => .stk
  | _ => .stk := id rfl
@[simp] theorem v_eBor (i : Nat) (f : E) (δ : Sl) : eBor i f δ = (match δ[i]? with
  | some (.own xs) => bare (f (δ.set i (.v (.lst xs))))
  | _ => f δ) := id rfl
@[simp] theorem v_tBr (i : Nat) (f : T) (δ : Sl) : tBr i f δ = (match δ[i]? with
  | some (.own xs) => bareT (f (δ.set i (.v (.lst xs))))
  | _ => f δ) := id rfl
@[simp] theorem v_bare_ok (d : D) : bare (.ok d) = if flat d = true then .ok d else .stk := id rfl
@[simp] theorem v_bare_exc (e : Ex) : bare (.exc e) = if e.fs.isEmpty = true then .exc e else .stk := id rfl
@[simp] theorem v_bareT_ok (d : Bool) : bareT (.ok d) = .ok d := id rfl
@[simp] theorem v_flat_int (i : Int) : flat (.int i) = true := by simp [flat]
@[simp] theorem v_flat_bl (i : Bool) : flat (.bl i) = true := by simp [flat]
@[simp] theorem v_flat_str (i : Str) : flat (.str i) = true := by simp [flat]
@[simp] theorem v_flat_non : flat .non = true := by simp [flat]
@[simp] theorem v_flat_tup (xs : List D) : flat (.tup xs) = flats xs := by simp [flat]
@[simp] theorem v_flats_nil : flats [] = true := by simp [flats]
@[simp] theorem v_flats_cons (d : D) (ds : List D) : flats (d :: ds) = (flat d && flats ds) := by simp [flats]
@[simp] theorem v_divmod (i j : Int) : gDivmod [.int i, .int j] = if 0 < j ∧ Builtin.divisionGoesByPylong i j = false then some (.tup [.int (i / j), .int (i % j)]) else none := id rfl
end Fs
namespace Fs
open PySem L2
/-- no promise where it raises -/
def hush (F : List D → R D) : List D → R D := fun ds => match F ds with
  | .exc _ => .stk
  | r => r
theorem hush_ok {F : List D → R D} {ds : List D} {d : D} (h : F ds = .ok d) : hush F ds = .ok d := by
  unfold hush
  rw [h]
theorem spD_hush {K : PySem.W.Frag} {ct ct' : String → Addr} {n : Nat} {F : List D → R D} {vs : List V} {H : Hp} {Q : VK} {E : XK} (h : spD K ct' n (hush F) vs H Q E) : spD K ct n F vs H Q E := by
  obtain ⟨G, ds, l, s, r, h⟩ := h
  refine ⟨G, ds, l, s, r, ?_⟩
  unfold hush at h
  cases e : F ds with
  | ok d => rw [e] at h; exact h
  | exc x => rw [e] at h; exact h.elim
  | stk => rw [e] at h; exact h.elim
theorem fn_hush {P : Program} {w : World} {K : PySem.W.Frag} {mg : Str → Option Value} {base : Heap} {CX : CXT} {k n : Nat} {f : Addr} {fd : FuncData} {ps : List Str} {ct ct' : String → Addr} {F : List D → R D} (h : FnOk P w K mg base CX k f fd ps (spD K ct n F)) :
    FnOk P w K mg base CX k f fd ps (spD K ct' n (hush F)) :=
  ⟨fun vs H Q E z => h.len vs H Q E (spD_hush z), fun A outer s H args us vs Q E a b c d z => h.run A outer s H args us vs Q E a b c d (spD_hush z)⟩
end Fs

/-! F15: in, is of truths, bit_length. -/
namespace Fs
open PySem L2
def gIn : B2
  | .str x, .str z => match x.cps.toList with
    | [c] => some (.bl (decide (c ∈ z.cps.toList)))
    | _ => none
  | .str x, .tup ds => (strsOf ds).map fun zs => .bl (decide (x ∈ zs))
  | .str x, .lst ds => (strsOf ds).map fun zs => .bl (decide (x ∈ zs))
  | .int x, .tup ds => (intsOf ds).map fun zs => .bl (decide (x ∈ zs))
  | .int x, .lst ds => (intsOf ds).map fun zs => .bl (decide (x ∈ zs))
  | _, _ => none
def gNin : B2 := fun x y => match gIn x y with
  | some (.bl b) => some (.bl !b)
  | _ => none
theorem inV_strs (x : Str) : ∀ zs : List Str, inV (.str x) (zs.map V.str) = decide (x ∈ zs)
  | [] => by simp [inV]
  | z :: zs => by
    have ih := inV_strs x zs
    unfold inV at ih ⊢
    rw [List.map_cons, List.any_cons, ih]
    have e : eqV (.str z) (.str x) = (z == x) := rfl
    rw [e]
    by_cases h : z = x
    · simp [h]
    · have h' : ¬ x = z := fun q => h q.symm
      simp [h, h']
theorem flat_strs : ∀ zs : List Str, (zs.map V.str).all flatV = true
  | [] => rfl
  | z :: zs => by
    rw [List.map_cons, List.all_cons, flat_strs zs]
    rfl
theorem inV_ints (x : Int) : ∀ zs : List Int, inV (.int x) (zs.map V.int) = decide (x ∈ zs)
  | [] => by simp [inV]
  | z :: zs => by
    have ih := inV_ints x zs
    unfold inV at ih ⊢
    rw [List.map_cons, List.any_cons, ih]
    have e : eqV (.int z) (.int x) = (z == x) := rfl
    rw [e]
    by_cases h : z = x
    · simp [h]
    · have h' : ¬ x = z := fun q => h q.symm
      simp [h, h']
theorem flat_ints : ∀ zs : List Int, (zs.map V.int).all flatV = true
  | [] => rfl
  | z :: zs => by
    rw [List.map_cons, List.all_cons, flat_ints zs]
    rfl
theorem one_sign {x : Str} {c : Nat} (h : x.cps.toList = [c]) : x = ⟨#[c]⟩ := by
  cases x with
  | mk a =>
    congr 1
    exact Array.toList_inj.mp h
section
variable {X : Cx}
theorem o_in : OpR X (compareOp .In) (rD X.K gIn) := by
  intro pins s σ H x y v u Q I rx ry h
  obtain ⟨G, dx, dy, d, e, sub, r1, r2, h⟩ := h
  cases r1 <;> cases r2 <;> simp only [gIn, reduceCtorEq] at e
  · rename_i x a vs ds p q
    cases hz : intsOf ds with
    | none => rw [hz] at e; exact nomatch e
    | some zs =>
      rw [hz] at e
      simp only [Option.map_some, Option.some.injEq] at e
      subst e
      have hd := intsOf_eq hz
      subst hd
      have hv := RepL.of_ints q
      subst hv
      refine op_in_seq pins s σ H _ _ v u Q I rx ry ⟨a, _, rfl, .inr (sqt_mono sub p), rfl, flat_ints zs, ?_⟩
      rw [inV_ints]
      exact h _ G H (Stp.refl sub) (.bl _)
  · rename_i x a vs ds p q
    cases hz : intsOf ds with
    | none => rw [hz] at e; exact nomatch e
    | some zs =>
      rw [hz] at e
      simp only [Option.map_some, Option.some.injEq] at e
      subst e
      have hd := intsOf_eq hz
      subst hd
      have hv := RepL.of_ints q
      subst hv
      refine op_in_seq pins s σ H _ _ v u Q I rx ry ⟨a, _, rfl, .inl (sub.seq p), rfl, flat_ints zs, ?_⟩
      rw [inV_ints]
      exact h _ G H (Stp.refl sub) (.bl _)
  · rename_i x z
    split at e
    · rename_i c hc
      simp only [Option.some.injEq] at e
      subst e
      exact op_in_sign pins s σ H _ _ v u Q I rx ry ⟨c, z, by rw [one_sign hc], rfl, h _ G H (Stp.refl sub) (.bl _)⟩
    · exact nomatch e
  · rename_i x a vs ds p q
    cases hz : strsOf ds with
    | none => rw [hz] at e; exact nomatch e
    | some zs =>
      rw [hz] at e
      simp only [Option.map_some, Option.some.injEq] at e
      subst e
      have hd := strsOf_eq hz
      subst hd
      have hv := RepL.of_strs q
      subst hv
      refine op_in_seq pins s σ H _ _ v u Q I rx ry ⟨a, _, rfl, .inr (sqt_mono sub p), rfl, flat_strs zs, ?_⟩
      rw [inV_strs]
      exact h _ G H (Stp.refl sub) (.bl _)
  · rename_i x a vs ds p q
    cases hz : strsOf ds with
    | none => rw [hz] at e; exact nomatch e
    | some zs =>
      rw [hz] at e
      simp only [Option.map_some, Option.some.injEq] at e
      subst e
      have hd := strsOf_eq hz
      subst hd
      have hv := RepL.of_strs q
      subst hv
      refine op_in_seq pins s σ H _ _ v u Q I rx ry ⟨a, _, rfl, .inl (sub.seq p), rfl, flat_strs zs, ?_⟩
      rw [inV_strs]
      exact h _ G H (Stp.refl sub) (.bl _)
theorem o_nin : OpR X (compareOp .NotIn) (rD X.K gNin) := by
  intro pins s σ H x y v u Q I rx ry h
  obtain ⟨G, dx, dy, d, e, sub, r1, r2, h⟩ := h
  unfold gNin at e
  cases r1 <;> cases r2 <;> simp only [gIn, reduceCtorEq] at e
  · rename_i x a vs ds p q
    cases hz : intsOf ds with
    | none => rw [hz] at e; exact nomatch e
    | some zs =>
      rw [hz] at e
      simp only [Option.map_some, Option.some.injEq] at e
      subst e
      have hd := intsOf_eq hz
      subst hd
      have hv := RepL.of_ints q
      subst hv
      refine op_notIn_seq pins s σ H _ _ v u Q I rx ry ⟨a, _, rfl, .inr (sqt_mono sub p), rfl, flat_ints zs, ?_⟩
      rw [inV_ints]
      exact h _ G H (Stp.refl sub) (.bl _)
  · rename_i x a vs ds p q
    cases hz : intsOf ds with
    | none => rw [hz] at e; exact nomatch e
    | some zs =>
      rw [hz] at e
      simp only [Option.map_some, Option.some.injEq] at e
      subst e
      have hd := intsOf_eq hz
      subst hd
      have hv := RepL.of_ints q
      subst hv
      refine op_notIn_seq pins s σ H _ _ v u Q I rx ry ⟨a, _, rfl, .inl (sub.seq p), rfl, flat_ints zs, ?_⟩
      rw [inV_ints]
      exact h _ G H (Stp.refl sub) (.bl _)
  · rename_i x z
    split at e
    · rename_i b hb
      simp only [Option.some.injEq] at e
      subst e
      split at hb
      · rename_i c hc
        simp only [Option.some.injEq, D.bl.injEq] at hb
        subst hb
        exact op_notIn_sign pins s σ H _ _ v u Q I rx ry ⟨c, z, by rw [one_sign hc], rfl, h _ G H (Stp.refl sub) (.bl _)⟩
      · exact nomatch hb
    · exact nomatch e
  · rename_i x a vs ds p q
    cases hz : strsOf ds with
    | none => rw [hz] at e; exact nomatch e
    | some zs =>
      rw [hz] at e
      simp only [Option.map_some, Option.some.injEq] at e
      subst e
      have hd := strsOf_eq hz
      subst hd
      have hv := RepL.of_strs q
      subst hv
      refine op_notIn_seq pins s σ H _ _ v u Q I rx ry ⟨a, _, rfl, .inr (sqt_mono sub p), rfl, flat_strs zs, ?_⟩
      rw [inV_strs]
      exact h _ G H (Stp.refl sub) (.bl _)
  · rename_i x a vs ds p q
    cases hz : strsOf ds with
    | none => rw [hz] at e; exact nomatch e
    | some zs =>
      rw [hz] at e
      simp only [Option.map_some, Option.some.injEq] at e
      subst e
      have hd := strsOf_eq hz
      subst hd
      have hv := RepL.of_strs q
      subst hv
      refine op_notIn_seq pins s σ H _ _ v u Q I rx ry ⟨a, _, rfl, .inl (sub.seq p), rfl, flat_strs zs, ?_⟩
      rw [inV_strs]
      exact h _ G H (Stp.refl sub) (.bl _)
def gIsB : B2
  | .bl a, .bl b => some (.bl (decide (a = b)))
  | _, _ => none
def gNotB : B2
  | .bl a, .bl b => some (.bl (!decide (a = b)))
  | _, _ => none
theorem o_isB : OpR X (compareOp .Is) (rD X.K gIsB) := by
  intro pins s σ H x y v u Q I rx ry h
  obtain ⟨G, dx, dy, d, e, sub, r1, r2, h⟩ := h
  cases r1 <;> cases r2 <;> simp only [gIsB, Option.some.injEq, reduceCtorEq] at e
  subst e
  exact op_isBl pins s σ H _ _ v u Q I rx ry ⟨_, _, rfl, rfl, h _ G H (Stp.refl sub) (.bl _)⟩
theorem o_notB : OpR X (compareOp .IsNot) (rD X.K gNotB) := by
  intro pins s σ H x y v u Q I rx ry h
  obtain ⟨G, dx, dy, d, e, sub, r1, r2, h⟩ := h
  cases r1 <;> cases r2 <;> simp only [gNotB, Option.some.injEq, reduceCtorEq] at e
  subst e
  exact op_notBl pins s σ H _ _ v u Q I rx ry ⟨_, _, rfl, rfl, h _ G H (Stp.refl sub) (.bl _)⟩
variable {C : Cc}
def eBits (f : E) : E := fun δ => (f δ).bind fun d => match d with
  | .int i => .ok (.int (Builtin.Int.intBits i : Nat))
  | _ => .stk
theorem se_bits {o : Expr} {f : E} {apos pos : Pos} (ho : SE X C o f) (hbase : attributeBase o "bit_length" X.env (eval o X.env) = eval o X.env := by rfl) (hline : (apos.endLine == pos.line) = true := by rfl) : SE X C (.Call (.Attribute o "bit_length" apos) [] [] pos) (eBits f) :=
  pe_weak (pe_bits ho hbase hline) fun σ H Q ⟨δ, G, re, h⟩ => ⟨δ, G, re, onR_mono (onR_RR h) fun d v G1 H1 s1 r1 h1 => by
    cases r1 with
    | int i => exact ⟨i, rfl, h1 _ G1 H1 (Stp.refl s1.sub) (.int _)⟩
    | non => exact h1.elim
    | bl b => exact h1.elim
    | str x => exact h1.elim
    | fn x => exact h1.elim
    | dct p l q => exact h1.elim
    | tup p q => exact h1.elim
    | lst p q => exact h1.elim⟩
end
@[simp] theorem v_eBits (f : E) (δ : Sl) : eBits f δ = (f δ).bind fun d => match d with
  | .int i => .ok (.int (Builtin.Int.intBits i : Nat))
  | _ => .stk := id rfl
@[simp] theorem v_isB (a b : Bool) : gIsB (.bl a) (.bl b) = some (.bl (decide (a = b))) := id rfl
@[simp] theorem v_notB (a b : Bool) : gNotB (.bl a) (.bl b) = some (.bl (!decide (a = b))) := id rfl
@[simp] theorem v_eqS (a b : Str) : gEq (.str a) (.str b) = some (.bl (decide (a = b))) := id rfl
@[simp] theorem v_neS (a b : Str) : gNe (.str a) (.str b) = some (.bl (!decide (a = b))) := id rfl
@[simp] theorem v_addS (x y : Str) : gAdd (.str x) (.str y) = if x.length + y.length ≤ sizeLine then some (.str (x ++ y)) else none := id rfl
@[simp] theorem v_addT (xs ys : List D) : gAdd (.tup xs) (.tup ys) = if xs.length + ys.length ≤ sizeLine then some (.tup (xs ++ ys)) else none := id rfl
@[simp] theorem v_ixS (z : Str) (i : Int) : gIx (.str z) (.int i) = if z.length ≤ sizeLine then (atI z.cps.toList i).map fun c => .str ⟨#[c]⟩ else none := id rfl
end Fs

/-! F16: the empty dict, range with a step, max and min of a list. -/
namespace Fs
open PySem L2
section
variable {X : Cx} {C : Cc} {pos : Pos}
theorem se_dic0 : SE X C (.Dict [] [] pos) (eC (.dct [] [])) :=
  pe_weak pe_dnewK fun σ H Q ⟨δ, G, re, h⟩ => fun p hp => h (.ref p) (upd G p (.dK [])) (upd H p (.dK [])) (Stp.new re.sub hp _) (.dct (vs := []) upd_same rfl .nil)
/-! range(a, b, c) -/
def rngS (lo c : Int) (n : Nat) : List D := (List.range n).map fun (i : Nat) => .int (lo + (i : Int) * c)
theorem rngS_get {lo c : Int} {n i : Nat} (h : i < n) : (rngS lo c n)[i]? = some (.int (lo + (i : Int) * c)) := by simp [rngS, h]
theorem itOk_rngS {K : PySem.W.Frag} {G : Hp} {lo c : Int} {n : Nat} : ItOk K (Itc lo c n) G (rngS lo c n) where
  go := fun i H s hi => by show i < n; simpa [rngS] using hi
  stop := fun i H s hi => by show n ≤ i; simpa [rngS] using hi
  yld := fun i H v H' Gc s1 s2 hi y => by
    obtain ⟨rfl, rfl⟩ := y
    have hi' : i < n := by simpa [rngS] using hi
    exact ⟨_, Gc, rngS_get hi', Stp.refl s2, .int _⟩
def rng3Ok (i j c : Int) : Prop := c ≠ 0 ∧ c.natAbs < 1073741824 ∧ Builtin.Range.small i j c = true ∧ 0 ≤ Builtin.Range.rangeSize i j c
instance (i j c : Int) : Decidable (rng3Ok i j c) := inferInstanceAs (Decidable (c ≠ 0 ∧ c.natAbs < 1073741824 ∧ Builtin.Range.small i j c = true ∧ 0 ≤ Builtin.Range.rangeSize i j c))
def iRange3 (a : As) : As := fun δ => (a δ).bind fun ds => match ds with
  | [.int i, .int j, .int c] => if rng3Ok i j c then .ok (rngS i c (Builtin.Range.rangeSize i j c).toNat) else .stk
  | _ => .stk
theorem si_range3 {tg a b c : Expr} {f : As} {p pos : Pos} (hg : Gl X "range") (hm : X.mg "range" = none) (ha : SA X C [a, b, c] f)
    (hs : starEach [a, b, c] X.env = (false, eval a X.env) :: starEach [b, c] X.env := by rfl) (hpl : (backTo pos (starEach [b, c] X.env)).any (·.1) = false := by rfl) :
    SI X C tg (.Call (.Name "range" p) [a, b, c] [] pos) (iRange3 f) :=
  pi_weak (pi_range3 hg hm ha hs hpl) fun σ H R ⟨δ, G, re, h⟩ => ⟨δ, G, re, onA_mono (onA_AI h) fun ds vs G1 H1 s1 r1 h1 => by
    split at h1
    · rename_i i j c
      cases r1 with
      | cons r2 r3 =>
        cases r2
        cases r3 with
        | cons r4 r5 =>
          cases r4
          cases r5 with
          | cons r6 r7 =>
            cases r6
            cases r7
            split at h1
            · rename_i hz
              obtain ⟨z1, z2, z3, z4⟩ := hz
              exact ⟨_, _, _, _, rfl, ⟨z1, z2, z3, (Int.toNat_of_nonneg z4).symm⟩, h1 _ G1 H1 (Stp.refl s1.sub) itOk_rngS⟩
            · exact h1.elim
    · exact h1.elim⟩
/-! max, min of a list of numbers -/
def maxI : List Int → Option Int
  | [] => none
  | x :: xs => match maxI xs with
    | none => some x
    | some m => some (if x ≤ m then m else x)
def minI : List Int → Option Int
  | [] => none
  | x :: xs => match minI xs with
    | none => some x
    | some m => some (if m ≤ x then m else x)
theorem maxI_none : ∀ {xs : List Int}, maxI xs = none → xs = []
  | [], _ => rfl
  | x :: xs, h => by
    simp only [maxI] at h
    split at h <;> exact nomatch h
theorem minI_none : ∀ {xs : List Int}, minI xs = none → xs = []
  | [], _ => rfl
  | x :: xs, h => by
    simp only [minI] at h
    split at h <;> exact nomatch h
theorem maxI_spec : ∀ {xs : List Int} {m : Int}, maxI xs = some m → m ∈ xs ∧ ∀ y ∈ xs, y ≤ m
  | [], m, h => nomatch h
  | x :: xs, m, h => by
    simp only [maxI] at h
    split at h
    · rename_i e
      have := maxI_none e
      subst this
      cases h
      exact ⟨by simp, fun y hy => by simp at hy; omega⟩
    · rename_i m' e
      obtain ⟨h1, h2⟩ := maxI_spec e
      simp only [Option.some.injEq] at h
      subst h
      refine ⟨?_, fun y hy => ?_⟩
      · split
        · exact List.mem_cons_of_mem _ h1
        · exact List.mem_cons_self
      · rcases List.mem_cons.mp hy with rfl | hy
        · split <;> omega
        · have := h2 y hy
          split <;> omega
theorem minI_spec : ∀ {xs : List Int} {m : Int}, minI xs = some m → m ∈ xs ∧ ∀ y ∈ xs, m ≤ y
  | [], m, h => nomatch h
  | x :: xs, m, h => by
    simp only [minI] at h
    split at h
    · rename_i e
      have := minI_none e
      subst this
      cases h
      exact ⟨by simp, fun y hy => by simp at hy; omega⟩
    · rename_i m' e
      obtain ⟨h1, h2⟩ := minI_spec e
      simp only [Option.some.injEq] at h
      subst h
      refine ⟨?_, fun y hy => ?_⟩
      · split
        · exact List.mem_cons_of_mem _ h1
        · exact List.mem_cons_self
      · rcases List.mem_cons.mp hy with rfl | hy
        · split <;> omega
        · have := h2 y hy
          split <;> omega
def gMaxL : BA
  | [.lst xs] => (intsOf xs).bind fun ns => (maxI ns).map .int
  | _ => none
def gMinL : BA
  | [.lst xs] => (intsOf xs).bind fun ns => (minI ns).map .int
  | _ => none
theorem b_maxL (hc : X.calm = true) : CallR X (.builtin "max") (rDA X.K gMaxL) := by
  intro pins s σ H xs us Q I r h
  obtain ⟨G, ds, d, e, sub, rl, h⟩ := h
  unfold gMaxL at e
  split at e
  · rename_i xs
    cases hz : intsOf xs with
    | none => rw [hz] at e; exact nomatch e
    | some ns =>
      rw [hz] at e
      simp only [Option.bind_some] at e
      cases hm : maxI ns with
      | none => rw [hm] at e; exact nomatch e
      | some m =>
        rw [hm] at e
        simp only [Option.map_some, Option.some.injEq] at e
        subst e
        have hd := intsOf_eq hz
        subst hd
        cases rl with
        | cons r1 r2 =>
          cases r2
          cases r1 with
          | lst p q =>
            have hv := RepL.of_ints q
            subst hv
            obtain ⟨h1, h2⟩ := maxI_spec hm
            refine cr_max hc pins s σ H _ us Q I r ⟨_, ns, rfl, sub.seq p, List.length_pos_of_mem h1, fun m' h3 h4 => ?_⟩
            have e2 : m' = m := Int.le_antisymm (h2 m' h3) (h4 m h1)
            subst e2
            exact h _ G H (Stp.refl sub) (.int _)
  · exact nomatch e
theorem b_minL (hc : X.calm = true) : CallR X (.builtin "min") (rDA X.K gMinL) := by
  intro pins s σ H xs us Q I r h
  obtain ⟨G, ds, d, e, sub, rl, h⟩ := h
  unfold gMinL at e
  split at e
  · rename_i xs
    cases hz : intsOf xs with
    | none => rw [hz] at e; exact nomatch e
    | some ns =>
      rw [hz] at e
      simp only [Option.bind_some] at e
      cases hm : minI ns with
      | none => rw [hm] at e; exact nomatch e
      | some m =>
        rw [hm] at e
        simp only [Option.map_some, Option.some.injEq] at e
        subst e
        have hd := intsOf_eq hz
        subst hd
        cases rl with
        | cons r1 r2 =>
          cases r2
          cases r1 with
          | lst p q =>
            have hv := RepL.of_ints q
            subst hv
            obtain ⟨h1, h2⟩ := minI_spec hm
            refine cr_min hc pins s σ H _ us Q I r ⟨_, ns, rfl, sub.seq p, List.length_pos_of_mem h1, fun m' h3 h4 => ?_⟩
            have e2 : m' = m := Int.le_antisymm (h4 m h1) (h2 m' h3)
            subst e2
            exact h _ G H (Stp.refl sub) (.int _)
  · exact nomatch e
end
@[simp] theorem v_iRange3 (a : As) (δ : Sl) : iRange3 a δ = (a δ).bind fun ds => match ds with
  | [.int i, .int j, .int c] => if rng3Ok i j c then .ok (rngS i c (Builtin.Range.rangeSize i j c).toNat) else .stk
  | _ => .stk := id rfl
@[simp] theorem v_tyD (ks : List Key) (ds : List D) : tyN (.dct ks ds) = some "dict" := id rfl
@[simp] theorem v_isTy_dictint : isTy "dict" "int" = false := by decide
@[simp] theorem v_isTy_dictbool : isTy "dict" "bool" = false := by decide
@[simp] theorem v_isTy_dictstr : isTy "dict" "str" = false := by decide
@[simp] theorem v_isTy_dicttuple : isTy "dict" "tuple" = false := by decide
@[simp] theorem v_isTy_dictlist : isTy "dict" "list" = false := by decide
end Fs

/-! F17: enumerate of a tuple. -/
namespace FsT
open PySem
set_option maxHeartbeats 1000000 in
theorem meets_en {src : Value} {ob : Obj} {Hh : Heap → Prop} (B : Begins src ob Hh) :
    Meets (Builtin.«enumerate.__new__» ⟨[.type "enumerate", src], []⟩) (fun _ R s0 => Hh s0.heap ∧
      R (.ok (.ret (.ref (s0.heap.push ob).objs.size))) { s0 with heap := (s0.heap.push ob).push { cls := .type "enumerate", data := .fields #[.none, .bool false, .ref s0.heap.objs.size, rawInt 0, .none, .none] } }) :=
  .of_wp fun pr wo Ar RR s0 hh => by
    obtain ⟨hp, gg, dd, tt, oo⟩ := s0
    obtain ⟨b1, b2⟩ := hh
    have hsub := sub_enumerate
    have qq : ∀ {A' : Around} {E' : Value → Shared → Prop} {Q' : Value → Shared → Prop}, Q' (.ref hp.objs.size) ⟨hp.push ob, gg, dd, tt, oo⟩ → wpAny (model pr wo) A' (pyIter src) Q' E' ⟨hp, gg, dd, tt, oo⟩ := fun z => B.iter pr wo _ _ ⟨hp, gg, dd, tt, oo⟩ _ b1 z
    wp_walk using qq
    refine wpAny_stack_any fun _ => wpAny_pure ?_
    split
    · rename_i c _ _ _ _ _
      cases (c == Value.type "enumerate") <;> (wp_walk using qq; exact ⟨_, rfl, b2⟩)
    · (wp_walk using qq; exact ⟨_, rfl, b2⟩)
section
variable {prog : Program} {w : World} {A : Around} {E : Value → Shared → Prop} {s : Shared}
theorem call_en {src : Value} {ob : Obj} {Hh : Heap → Prop} {Q : Value → Shared → Prop} (B : Begins src ob Hh) (h1 : Hh s.heap)
    (h : ∀ h', IsEnum h' (s.heap.objs.size + 1) s.heap.objs.size 0 .none → h'.get? s.heap.objs.size = some ob → (∀ b u, s.heap.get? b = some u → h'.get? b = some u) → Q (.ref (s.heap.objs.size + 1)) { s with heap := h' }) :
    wpAny (model prog w) A (call (.type "enumerate") [src]) Q E s := by
  refine callType_new F.called_enumerate (by decide) (F.typeCall_enumerate_1 _) (F.newCall_enumerate_1 _) (fun ob2 => F.args_object_init_2 ob2 _) F.entry_enumerate_new (meets_en B) ⟨h1, ?_⟩
  have hz : (s.heap.push ob).objs.size = s.heap.objs.size + 1 := Heap.size_push ..
  show _ ∧ _
  rw [hz]
  have en : IsEnum ((s.heap.push ob).push { cls := .type "enumerate", data := .fields #[.none, .bool false, .ref s.heap.objs.size, rawInt 0, .none, .none] }) (s.heap.objs.size + 1) s.heap.objs.size 0 .none := by
    have z := Heap.get?_push_size (s.heap.push ob) (o := { cls := .type "enumerate", data := .fields #[.none, .bool false, .ref s.heap.objs.size, rawInt 0, .none, .none] }) rfl
    rw [hz] at z
    exact z
  exact ⟨⟨_, en, rfl⟩, h _ en (Heap.get?_push_of_some _ (Heap.get?_push_size _ B.free)) fun b u x => Heap.get?_push_of_some _ (Heap.get?_push_of_some _ x)⟩
end
end FsT
namespace Fs
open PySem L2 PySem.Spec PyProof.Rows
/-- the tuple at a as it stands at each turn, each item in a new pair -/
def IteT (K : PySem.W.Frag) (a : Addr) : It :=
  ⟨fun i H => ∃ (xs : List V) (x : V), SqT K H a xs ∧ xs[i]? = some x,
   fun i H v H' => ∃ T x, v = .ref T ∧ H T = none ∧ H' = upd H T (.tup [.int (i : Nat), x]) ∧ ∀ xs, SqT K H a xs → xs[i]? = some x,
   fun i H => ∃ xs : List V, SqT K H a xs ∧ xs.length ≤ i⟩
theorem turn_enT {P : Program} {w : World} {K : PySem.W.Frag} {elts : List Expr} {kk : Nat} {tpos : Pos} (a e it : Addr) (hae : a ≠ e) (hai : a ≠ it) (hne : e ≠ it) :
    Turn P w K (.Tuple elts kk tpos) (IteT K a) [e, it] e (fun i h => (∃ old, IsEnum h e it ((i : Nat) : Int) old) ∧ h.IsTupleIter it a i) where
  mem := by simp
  obj := fun i h st b hb => by
    obtain ⟨⟨old, he⟩, o, ho, hc, hd⟩ := st
    rcases (show b = e ∨ b = it by simpa using hb) with z | z <;> rw [z]
    · exact ⟨_, he, fun v q => nomatch q⟩
    · exact ⟨o, ho, fun v q => by rw [hd] at q; cases q⟩
  keep := fun i h h' st k => ⟨st.1.elim fun old he => ⟨old, k e (by simp) _ he⟩, st.2.at fun o q => k it (by simp) o q⟩
  item := by
    intro X hP hw hK hc i pins s σ H E I hf st hg
    subst hP hw hK
    obtain ⟨⟨old, he⟩, hit⟩ := st
    obtain ⟨xs, x, hq, hx⟩ := hg
    obtain ⟨its, rv, p, hz⟩ := I.tuple hq
    obtain ⟨u, hu, ru⟩ := rv.get hx
    have hel : e < s.heap.objs.size := Heap.lt_size he
    have hil : it < s.heap.objs.size := hit.elim fun _ q => Heap.lt_size q.1
    have hlt : i < its.toArray.size := by
      have := (List.getElem?_eq_some_iff.mp hu).1
      simpa using this
    have p' : s.heap.IsTuple a its.toArray := p
    refine wpAny_pyNext_enum_itemD (Draws.tuple (show X.A.in1.handled = none from I.ok.hd hc) it a hai its.toArray) he ⟨hit, p'⟩ hlt hne (by simp [hne, Ne.symm hae]) fun v h' tk hv ho st' hT hsz hk => ?_
    have huv : v = u := by
      have z : its.toArray[i]? = some u := by simpa using hu
      rw [z] at hv
      exact (Option.some.inj hv).symm
    subst huv
    refine ⟨_, rfl, wpAny_letOwnedTupleGo_enum (s := { s with heap := h', toks := tk + 1 }) ho fun h'' he' sb => ?_⟩
    have hT2 := (sb.2 _ (Nat.ne_of_gt hel)).trans hT
    have new : ObjOk X.prog X.w (upd H s.heap.objs.size (.tup [.int (i : Nat), x])) h'' s.heap.objs.size (.tup [.int (i : Nat), x]) := ⟨by show 2 ≤ sizeLine; decide, _, .cons ⟨_, rfl⟩ (.cons ru .nil), ⟨_, hT2, rfl, _, rfl⟩⟩
    have I1 : Inv X pins σ (upd H s.heap.objs.size (.tup [.int (i : Nat), x])) { s with heap := h'', toks := tk + 1 } :=
      I.turnedNew (ch := [e, it]) (fun b ob hb q => (sb.2 b fun z => hb (by simp [z])).trans (hk b ob (fun z => hb (by simp [z])) (fun z => hb (by simp [z])) q)) hf (Nat.le_refl _) new
    refine ⟨.ref s.heap.objs.size, _, I1, rfl, ⟨_, x, rfl, I.hok.fresh (Nat.le_refl _), rfl, fun ys hy => by rw [I.tuple_inj hy hq]; exact hx⟩, ⟨⟨v, ?_⟩, st'.1.at fun o q => (sb.2 it hne.symm).trans q⟩, fun b hb => ?_⟩
    · rw [show ((i + 1 : Nat) : Int) = (i : Int) + 1 by omega]
      exact he'
    · have hb' : b < s.heap.objs.size := by
        rcases (show b = e ∨ b = it by simpa using hb) with z | z <;> rw [z] <;> assumption
      rw [upd_ne (Nat.ne_of_lt hb')]
      exact (hf b hb).1
  done := by
    intro X hP hw hK hc i pins s σ H E I hf st hg
    subst hP hw hK
    obtain ⟨⟨old, he⟩, hit⟩ := st
    obtain ⟨xs, hq, hx⟩ := hg
    obtain ⟨its, rv, p, hz⟩ := I.tuple hq
    obtain ⟨f0, f1, f2, f3, f4, f5⟩ := hf it (by simp)
    have hl := rv.length
    have p' : s.heap.IsTuple a its.toArray := p
    have D0 : Draws X.prog X.w X.A.in1 it [it, a] i (fun _ _ => True) (fun j h => j = i ∧ h.IsTupleIter it a j ∧ h.IsTuple a its.toArray) := {
      live := fun _ _ st => st.2.1.elim fun o q => ⟨o, q.1⟩
      frame := fun _ _ _ st hk => ⟨st.1, st.2.1.at fun o q => hk it (by simp) o q, st.2.2.at fun o q => hk a (by simp) o q⟩
      item := fun j _ _ _ hj st => absurd st.1 (Nat.ne_of_lt hj)
      done := fun s' Q' E' st hE => wpAny_nextOf_tuple_end (show X.A.in1.handled = none from I.ok.hd hc) st.2.1 st.2.2 (by simp; omega) hE }
    exact wpAny_pyNext_enum_endD D0 he ⟨rfl, hit, p'⟩ fun h' eb => ⟨rfl, I.turned (t' := s.toks) (fun b o hb q => eb b o hb q) f0 f1 f3 f4 f5⟩
  self := fun A i s Q E st h => st.1.elim fun _ he => wpAny_pyIter_enum he h
section
variable {X : Cx} {C : Cc}
theorem pi_enT {e : Expr} {ta : TA} {p pos tpos : Pos} {elts : List Expr} {kk : Nat} (hg : Gl X "enumerate") (hm : X.mg "enumerate" = none) (ha : PA X [e] ta) (hs : starEach [e] X.env = [(false, eval e X.env)] := by rfl) :
    PI X (.Tuple elts kk tpos) (.Call (.Name "enumerate" p) [e] [] pos) (fun σ H R => ta σ H fun vs H1 => ∃ a xs, vs = [.ref a] ∧ ((SqL X.K H1 a xs ∧ R (Ite X.K a) H1) ∨ (SqT X.K H1 a xs ∧ R (IteT X.K a) H1))) := by
  refine ⟨fun pins s σ H R I h => ?_⟩
  refine Call_ (ld_blt I hg hm boot_enumerate (PyProof.Rows.callWith_type1 (thn (ha.run pos pins s σ H _ I h) fun us s1 ⟨vs, H1, I1, r1, q1⟩ => ?_) hs rfl))
  obtain ⟨a, xs, ex, q⟩ := q1
  subst ex
  cases r1 with
  | cons r rr =>
    cases rr
    cases r
    have old : ∀ b, b ∈ [s1.heap.objs.size + 1, s1.heap.objs.size] → FpOk X pins H1 b := fun b hb => by
      have hle : s1.heap.objs.size ≤ b := by
        rcases (show b = s1.heap.objs.size + 1 ∨ b = s1.heap.objs.size by simpa using hb) with z | z <;> rw [z] <;> omega
      exact I1.fpOk hle (I1.hok.fresh hle)
    rcases q with ⟨hq, q⟩ | ⟨hq, q⟩
    · obtain ⟨its, rv, p', hz⟩ := I1.list hq
      refine call_enumerate_list p'.isList fun h' he hit hsz hk => wpAny_pyIter_enum he ?_
      have I2 : Inv X pins σ H1 { s1 with heap := h' } := I1.kept (t' := s1.toks) hk
      exact ⟨s1.heap.objs.size + 1, [s1.heap.objs.size + 1, s1.heap.objs.size], _, _, H1, rfl, I2, turn_enum a (s1.heap.objs.size + 1) s1.heap.objs.size, ⟨⟨.none, he⟩, hit, Nat.succ_ne_self _⟩, old, q⟩
    · obtain ⟨its, rv, p', hz⟩ := I1.tuple hq
      have pt : s1.heap.IsTuple a its.toArray := p'
      have hlt : a < s1.heap.objs.size := (id pt).elim fun o q => Heap.lt_size q.1
      refine FsT.call_en (begins_tuple a its.toArray) pt fun h' he ho hk => wpAny_pyIter_enum he ?_
      have I2 : Inv X pins σ H1 { s1 with heap := h' } := I1.kept (t' := s1.toks) hk
      exact ⟨s1.heap.objs.size + 1, [s1.heap.objs.size + 1, s1.heap.objs.size], _, _, H1, rfl, I2, turn_enT a (s1.heap.objs.size + 1) s1.heap.objs.size (Nat.ne_of_lt (Nat.lt_succ_of_lt hlt)) (Nat.ne_of_lt hlt) (Nat.succ_ne_self _), ⟨⟨.none, he⟩, ⟨_, ho, rfl, rfl⟩⟩, old, q⟩
theorem itOk_enT {K : PySem.W.Frag} {G : Hp} {a : Addr} {vs : List V} {ds : List D} (h : SqT K G a vs) (r : RepL K G ds vs) : ItOk K (IteT K a) G (ds.zipIdx.map fun p => .tup [.int (p.2 : Nat), p.1]) where
  go := fun i H s hi => by
    have hi' : i < ds.length := by simpa using hi
    obtain ⟨v, e, _⟩ := r.get (List.getElem?_eq_getElem hi')
    exact ⟨vs, v, sqt_mono s h, e⟩
  stop := fun i H s hi => ⟨vs, sqt_mono s h, by rw [← r.length]; simpa using hi⟩
  yld := fun i H x H' Gc s1 s2 hi y => by
    have hi' : i < ds.length := by simpa using hi
    obtain ⟨v, e, rv⟩ := r.get (List.getElem?_eq_getElem hi')
    obtain ⟨T, x0, rfl, hT, rfl, y2⟩ := y
    have z := y2 vs (sqt_mono (s1.trans s2) h)
    rw [e] at z
    cases z
    refine ⟨.tup [.int (i : Nat), ds[i]], upd Gc T (.tup [.int (i : Nat), v]), ?_, Stp.new s2 hT _, .tup (SqT.of upd_same) (.cons (.int _) (.cons ?_ .nil))⟩
    · simp [hi']
    · exact (rv.mono s1).mono (same_new (s2.free hT) _)
def iEnumE (a : As) : As := fun δ => (a δ).bind fun ds => match ds with
  | [.lst xs] => .ok (enumD xs)
  | [.tup xs] => .ok (enumD xs)
  | _ => .stk
theorem si_enumE {e : Expr} {f : As} {p pos tpos : Pos} {elts : List Expr} {kk : Nat} (hg : Gl X "enumerate") (hm : X.mg "enumerate" = none) (ha : SA X C [e] f) (hs : starEach [e] X.env = [(false, eval e X.env)] := by rfl) :
    SI X C (.Tuple elts kk tpos) (.Call (.Name "enumerate" p) [e] [] pos) (iEnumE f) :=
  pi_weak (pi_enT hg hm ha hs) fun σ H R ⟨δ, G, re, h⟩ => ⟨δ, G, re, onA_mono (onA_AI h) fun ds vs G1 H1 s1 r1 h1 => by
    split at h1
    · cases r1 with
      | cons r2 r3 =>
        cases r3
        cases r2 with
        | @lst a us _ pp q => exact ⟨a, us, rfl, .inl ⟨s1.sub.seq pp, h1 _ G1 H1 (Stp.refl s1.sub) (itOk_enum pp q)⟩⟩
    · cases r1 with
      | cons r2 r3 =>
        cases r3
        cases r2 with
        | @tup a us _ pp q => exact ⟨a, us, rfl, .inr ⟨sqt_mono s1.sub pp, h1 _ G1 H1 (Stp.refl s1.sub) (itOk_enT pp q)⟩⟩
    · exact h1.elim⟩
end
@[simp] theorem v_iEnumE (a : As) (δ : Sl) : iEnumE a δ = (a δ).bind fun ds => match ds with
  | [.lst xs] => .ok (enumD xs)
  | [.tup xs] => .ok (enumD xs)
  | _ => .stk := id rfl
end Fs

/-! F18: try .. except C as e: x = f(e), f a def that asks isinstance of e. -/
namespace Fs
open PySem L2 L2H PySem.Spec PyProof.Rows
/-- what f says of the exception that is handled, of the class D: b -/
structure FnAl (P : Program) (w : World) (K : PySem.W.Frag) (mg : Str → Option Value) (base : Heap) (k : Nat) (f : Addr) (fd : FuncData) (ps : List Str) (D : Addr) (b : Bool) : Prop where
  one : ps.length = 1
  run : ∀ (A : Around) (outer : List Env) (s : Shared) (H : Hp) (args : Args) (us : List Value) (Q : VK) (a : Addr) (oe : Obj), RoomH k A → PinOk outer H s (a, oe) → Zc (.ref D) none oe → (∃ vs, oe.data = .fields vs) → Env0 P w K mg base A outer s H →
    BindsTo s fd args (ps.zip us) → Vals [.ref a] us → (∀ H', Same H H' → Q (.bl b) H') → codeAny (model P w) A (.call (.ref f) args) (CR (L2.CX P w) outer P w H s Q fun _ _ _ => False) s
section
variable {P : Program} {w : World} {K : PySem.W.Frag} {mg : Str → Option Value} {base : Heap} {ct : String → Addr}
theorem fn_al {x qual : Str} {st : Stmt} {f : Addr} {fd : FuncData} {N ps : List Str} {k : Nat} {body : Addr → S} {D : Addr} {b : Bool} (F : L2.Fun K x qual st f fd) (sc : FnScope N ps (defScope st)) (h1 : ps.length = 1) (hn : 1 ≤ N.length)
    (hb : ∀ (cdv : Value) (A : Around) (outer : List Env) (s : Shared) (H : Hp) (a : Addr) (oe : Obj), Zc (.ref D) none oe → (∃ vs, oe.data = .fields vs) →
      SSs (cxH (L2.CX P w) P w K mg base N qual (defScope st) f cdv A outer s H (fun _ _ _ => False) (a, oe)) ⟨fun _ => none, H, ct, fun _ _ _ _ => False⟩ (defBody st) (body a))
    (hv : ∀ a, runD N.length (body a) [.fn a] = .ok (.bl b)) : FnAl P w K mg base (k + 1) f fd ps D b := by
  obtain ⟨oc, od, kV, doc, pm, an, cdv, ct2, osl, rfl, lk, hcd⟩ := F.ex
  refine ⟨h1, fun A outer s H args us Q a oe hr hpin hz hf e0 hbd rv hq => ?_⟩
  have hl : [V.ref a].length = ps.length := h1.symm
  have KX : K.In s.heap := e0.mod.kin.keeps fun c o e => (e0.bs c o e).1
  have lim : s.heap.NoLimit := e0.mod.nolimit.keeps fun c o e => (e0.bs c o e).1
  have hkd : ∀ y ∈ ps.zip us, (defScope st).names.lookup y.1 = some .local ∨ ((defScope st).names.lookup y.1 = some .cell ∧ ((cellsFrom (s.heap.objs.size + 1) (defScope st).names []).lookup y.1).isSome = true) := fun ⟨n, v⟩ hy => (sc.par n (List.of_mem_zip hy).1).imp id fun q => ⟨q, PySem.W.cellsFrom_some _ _ _ (.inl q)⟩
  refine codeAny_call_function hr.depth (KX _ _ lk) rfl sc.co sc.gen rfl (PySem.W.codeRec_of KX hcd) (hbd _ _ _ _ ?_)
  refine wpAny_newFunctionEnv_cells sc.kind hkd fun env he s1 xx => ?_
  subst he
  refine ⟨lim.keeps xx.toInCall.keep, codeAny_func ?_⟩
  have I := inv_startH (CX := L2.CX P w) (E := fun _ _ _ => False) (cd := cdv) (qual := qual) (f := f) sc hpin e0 hl rv xx
  have sub : Same (fun _ => none : Hp) H := fun b u q => nomatch q
  have rs := re_start (K := K) (C := ⟨fun _ => none, H, ct, fun _ _ _ _ => False⟩) (N := N) (ds := [.fn a]) (vs := [.ref a]) (Stp.refl sub) (.cons (.fn a) .nil) (by simpa using hn)
  have hv' := hv a
  unfold runD at hv'
  refine wpAny_mono ((hb cdv A outer s H a oe hz hf).run [] s1 (L2.start N [.ref a]) H { nx := fun _ H' => Q .non H', rt := Q } I ⟨_, _, rs, ?_⟩) (fun fl s' hs => ?_) fun e s' hs => hs
  · cases e : body a (([Fs.D.fn a] : List Fs.D).map .v ++ List.replicate (N.length - ([Fs.D.fn a] : List Fs.D).length) .un) with
    | nx δ => rw [e] at hv'; cases hv'
    | rt d =>
      rw [e] at hv'
      cases hv'
      exact fun v G' H' t r => by cases r; exact hq H' t.h
    | exc e2 δ => rw [e] at hv'; cases hv'
    | bk δ => rw [e] at hv'; cases hv'
    | ct δ => rw [e] at hv'; cases hv'
    | stk => rw [e] at hv'; cases hv'
  · cases fl with
    | ret u => exact hs.elim fun v z => z.elim fun σ' z => z.elim fun H' z => ⟨v, H', z.1.os, z.1.bare, z.1.base, z.1.hok, z.2.1, z.2.2⟩
    | next => exact hs.elim fun σ' z => z.elim fun H' z => ⟨.non, H', z.1.os, z.1.bare, z.1.base, z.1.hok, rfl, z.2⟩
    | brk => exact hs.elim fun _ z => z.elim fun _ z => z.2.elim
    | cont => exact hs.elim fun _ z => z.elim fun _ z => z.2.elim
end
/-! isinstance of the exception -/
section
variable {X : Cx} {C : Cc}
theorem call_isE2 {a D : Addr} {oe : Obj} (hm : (a, oe) ∈ X.pn) (c : ExcC X.K D) (hz : Zc (.ref D) none oe) (hf : ∃ vs, oe.data = .fields vs) : CallR X (.builtin "isinstance") (rIsE X.K D a) := by
  intro pins s σ H xs us Q I r h
  obtain ⟨cc, cv, b, rfl, hcv, e, q⟩ := h
  cases r with
  | cons rx rr =>
    cases rr with
    | cons rt rr =>
      cases rr
      cases rx
      have ec := hcv _ rt
      subst ec
      have hget := (I.pin (a, oe) (List.mem_append_left _ hm)).1
      obtain ⟨vs, hv⟩ := hf
      have J : PySem.W.InstAt s.heap a oe D none := by
        obtain ⟨oc, od, oda, osl⟩ := oe
        obtain ⟨z1, z2⟩ := hz
        dsimp only at z1 z2 hv
        subst z1 z2 hv
        exact ⟨hget, rfl, rfl, trivial⟩
      exact PySem.W.kia_one (PySem.W.handS_kitx_exc c.hg c.hk c.hs c.hd c.ha c.hn c.ht c.hm) I.kIn J e (fun z => nomatch z) fun tk => ⟨.bl b, H, I.kept (t' := tk) fun _ _ z => z, rfl, q⟩
def eIsX (a : Addr) (i : Nat) (b : Bool) : E := fun δ => match δ[i]? with
  | some (.v (.fn c)) => if c = a then .ok (.bl b) else .stk
  | _ => .stk
theorem se_isX {a D : Addr} {oe : Obj} {b : Bool} {i : Nat} {x cn : Str} {p1 p2 pf pos : Pos} {cv : Value} {cV : V} (hm : (a, oe) ∈ X.pn) (c : ExcC X.K D) (hz : Zc (.ref D) none oe) (hf : ∃ vs, oe.data = .fields vs)
    (hgi : Gl X "isinstance") (hmi : X.mg "isinstance" = none) (hc : PE X (.Name cn p2) (tC cV)) (hcv : ∀ u, RelV cV u → u = cv) (hk : PySem.W.kitOne X.K (.ref D) cv = some b)
    (hN : X.N[i]? = some x := by rfl) (hv : Vis X.env.scope x := by first | exact Or.inl rfl | exact Or.inr (Or.inl rfl) | exact Or.inr (Or.inr rfl)) (hd : (x == ("__debug__" : Str)) = false := by decide) (hcd : (x == ("__classdict__" : Str)) = false := by decide)
    (hvi : bootBuiltins "isinstance" = some (.builtin "isinstance") := by decide +kernel)
    (hs : starEach [.Name x p1, .Name cn p2] X.env = (false, eval (.Name x p1) X.env) :: starEach [.Name cn p2] X.env := by rfl) (hpl : (backTo pos (starEach [.Name cn p2] X.env)).any (·.1) = false := by rfl) (hs2 : starEach [.Name cn p2] X.env = (false, eval (.Name cn p2) X.env) :: starEach [] X.env := by rfl) :
    SE X C (.Call (.Name "isinstance" pf) [.Name x p1, .Name cn p2] [] pos) (eIsX a i b) :=
  pe_weak (pe_callB (call_isE2 hm c hz hf) hgi hmi hvi (pa_cons (pe_var hN hv hd hcd) (pa_cons hc pa_nil hs2) hs) (by decide) (by decide) hs hpl) fun σ H Q ⟨δ, G, re, h⟩ => by
    unfold eIsX at h
    cases q : δ[i]? with
    | none => rw [q] at h; exact h.elim
    | some sl =>
      rw [q] at h
      cases sl with
      | un => exact h.elim
      | own xs => exact h.elim
      | v d =>
        cases d with
        | fn c2 =>
          simp only at h
          split at h
          · rename_i hca
            subst hca
            obtain ⟨v, e0, r0⟩ := re.val q
            cases r0
            exact ⟨_, e0, cV, cv, b, rfl, hcv, hk, onR_self re.sub h (.bl b)⟩
          · exact h.elim
        | _ => exact h.elim
end
/-! the call in the suite -/
section
variable {X : Cx} {C : Cc}
theorem pe_al {a cD : Addr} {oe : Obj} {b : Bool} {i k : Nat} {fA : Addr} {fd : FuncData} {ps : List Str} {x n : Str} {p1 q pos : Pos} (hm : (a, oe) ∈ X.pn) (hz : Zc (.ref cD) none oe) (hf : ∃ vs, oe.data = .fields vs) (Fn : FnAl X.prog X.w X.K X.mg X.base k fA fd ps cD b) (hr : RoomH k X.A)
    (hg : Gl X x) (hmg : X.mg x = some (.ref fA)) (hk : PySem.W.keepIn X.K (.ref fA) = true) (hb : Binds X.K fd ps []) (tk : Takes X (fun _ _ _ _ => False))
    (hN : X.N[i]? = some n := by rfl) (hv : Vis X.env.scope n := by first | exact Or.inl rfl | exact Or.inr (Or.inl rfl) | exact Or.inr (Or.inr rfl)) (hd : (n == ("__debug__" : Str)) = false := by decide) (hcd : (n == ("__classdict__" : Str)) = false := by decide) (hdb : (x == ("__debug__" : Str)) = false := by decide)
    (he : starEach [.Name n p1] X.env = (false, eval (.Name n p1) X.env) :: starEach [] X.env := by rfl) (hpl : (backTo pos (starEach [] X.env)).any (·.1) = false := by rfl) :
    PE X (.Call (.Name x q) [.Name n p1] [] pos) (fun σ H Q => σ[i]? = some (some (.ref a)) ∧ ∀ H', Same H H' → Q (.bl b) H') := by
  refine ⟨fun pins s σ H Q I h => ?_⟩
  have ha : PA X [.Name n p1] (tCons (tVar i) tNil) := pa_cons (pe_var hN hv hd hcd) pa_nil he
  refine wpAny_Call_Name_kw (ld_glob I hg hmg ?_ hdb)
  refine PySem.W.callWith_K (h₀ := X.base) I.ok.mod.kin hk (thn (ha.run pos pins s σ H (fun vs H1 => vs = [V.ref a] ∧ H1 = H) I ⟨_, h.1, rfl, rfl⟩) fun us s1 hh => ?_) he hpl
  obtain ⟨vs, H1, I1, rv, ev, eH⟩ := hh
  subst ev
  subst eH
  refine ⟨I1.kIn, ?_⟩
  have hl : us.length = ps.length := by rw [← rv.length, Fn.one]; rfl
  have bb := hb s1 us I1.kIn (by rw [List.append_nil]; exact hl)
  rw [List.append_nil] at bb
  have P1 := I1.pin (a, oe) (List.mem_append_left _ hm)
  have hpin : PinOk X.stack H1 s1 (a, oe) := ⟨P1.1, P1.2.1, fun z => (List.mem_cons.mp (I1.stkSub a z)).elim P1.2.2.1 P1.2.2.2.1, P1.2.2.2.2⟩
  refine wpAny_call (codeAny_mono (Fn.run X.A X.stack s1 H1 ⟨us, []⟩ us Q a oe hr hpin hz hf I1.env0 bb rv h.2) fun r s' hq => ?_)
  cases r with
  | error e => exact passAt tk σ pins H1 s1 e s' I1 hq
  | ok fl =>
    cases fl with
    | ret u => exact I1.after hq
    | next => exact hq.elim
    | brk => exact hq.elim
    | cont => exact hq.elim
def sTryAl (t al : String → Option Bool) (i j : Nat) (fb : S) : S := fun δ => match fb δ with
  | .exc e δ' => if e.fs.isEmpty = true then (match t e.cls with
    | some true => (match al e.cls with
      | some b => .nx (((δ'.set i .un).set j (.v (.bl b))).set i .un)
      | none => .stk)
    | some false => .exc e δ'
    | none => .stk) else .stk
  | r => r
theorem ss_try_al {x n : Str} {c : Addr} {t al : String → Option Bool} {i j : Nat} {body suite : List Stmt} {b₀ : Stmt} {np pos' pos : Pos} {fb : S} (hs : X.stack = X.env :: X.outer) (hf : X.env.frame = some X.env.locals) (hN : X.N.Nodup) (hi : X.N[i]? = some n) (hln : X.env.kindOf n = some .local) (hiN : i < X.N.length)
    (hc : Names X x (.ref c)) (tk : Takes X C.W) (ht : XT X.K C.ct c t)
    (hb : ∀ (W : WX) (pn : List (Addr × Obj)) (xe : Value → Shared → Prop), Takes (X.tr pn xe) W → PassesOwn (model X.prog X.w) X.A X.env xe → SSs (X.tr pn xe) { C with W := W } body fb)
    (hsu : ∀ (a : Addr) (oe : Obj) (pn : List (Addr × Obj)) (cn : String) (b : Bool), al cn = some b → Zc (.ref (C.ct cn)) none oe → (∃ vs, oe.data = .fields vs) →
      PSs (X.suite a ((a, oe) :: pn)) (b₀ :: suite) (fun Dn σ H => σ[i]? = some (some (.ref a)) ∧ ∀ H', Same H H' → Dn.nx (σ.set j (some (.bl b))) H')) :
    SS X C (.Try body [.ExceptHandler (some (.Name x np)) (some n) (b₀ :: suite) pos'] [] [] pos) (sTryAl t al i j fb) := by
  refine ⟨fun pins s σ H Dn I h => ?_⟩
  refine (ps_try_as (tb := fun W => liftS X.K { C with W := W } fb) (ts := fun a cls d => fun Dn σ H => ∃ (cn : String) (b : Bool), cls = .ref (C.ct cn) ∧ d = none ∧ al cn = some b ∧ (∃ σ0 : L2.St, σ = List.set σ0 i (some (.ref a))) ∧ ∀ H', Same H H' → Dn.nx (σ.set j (some (.bl b))) H')
    hs hf hN hi hln hc tk hb fun a oe cls d pn hz hfl => ⟨fun pins s σ H Dn I hh => by
      obtain ⟨cn, b, rfl, rfl, hal, h1, h2⟩ := hh
      have hl : σ.length = X.N.length := I.len
      refine (hsu a oe pn cn b hal hz hfl).run pins s σ H Dn I ⟨?_, h2⟩
      obtain ⟨σ0, rfl⟩ := h1
      rw [List.length_set] at hl
      rw [List.getElem?_set_self (by omega)]⟩).run pins s σ H Dn I ?_
  obtain ⟨δ, G, re, h⟩ := h
  refine ⟨δ, G, re.wish2, ?_⟩
  unfold sTryAl at h
  cases e : fb δ with
  | nx δ' => rw [e] at h; exact fun σ' G' H' re z => h σ' G' H' re.wish2 z
  | bk δ' => rw [e] at h; exact fun σ' G' H' re z => h σ' G' H' re.wish2 z
  | ct δ' => rw [e] at h; exact fun σ' G' H' re z => h σ' G' H' re.wish2 z
  | rt d => rw [e] at h; exact h
  | stk => rw [e] at h; exact h.elim
  | exc ex δ' =>
    rw [e] at h
    simp only at h
    intro cls dd σ' G' H' re' sg rx
    split at h
    · rename_i hfs
      have hfs' : ex.fs = [] := List.isEmpty_iff.mp hfs
      have hdd : dd = none := rx.2.elim (fun z => z.2) fun z => absurd hfs' z.1
      cases q : t ex.cls with
      | none => rw [q] at h; exact h.elim
      | some bb =>
        rw [q] at h
        refine ⟨bb, by rw [rx.1]; exact ht _ _ q, fun hb => ?_, fun hb => ?_⟩
        · subst hb
          intro a _
          simp only at h
          cases qa : al ex.cls with
          | none => rw [qa] at h; exact h.elim
          | some b =>
            rw [qa] at h
            refine ⟨ex.cls, b, rx.1, hdd, qa, ⟨_, rfl⟩, fun H2 sm => ?_⟩
            · have stp : Stp G' H' G' H2 := ⟨Same.refl _, sm, re'.sub.trans sm, fun _ z => .inl z⟩
              exact h _ G' H2 ((((re'.step stp).setU i (some (.ref a))).setV j (.bl b)).setU i none).wish2 sg
        · subst hb
          exact h cls dd σ' G' H' re'.wish2 sg rx
    · exact h.elim
end
end Fs
namespace Fs
open PySem L2
@[simp] theorem v_eIsX (a : Addr) (i : Nat) (b : Bool) (δ : Sl) : eIsX a i b δ = (match δ[i]? with
  | some (.v (.fn c)) => if c = a then .ok (.bl b) else .stk
  | _ => .stk) := id rfl
@[simp] theorem v_sTryAl (t al : String → Option Bool) (i j : Nat) (fb : S) (δ : Sl) : sTryAl t al i j fb δ = (match fb δ with
  | .exc e δ' => if e.fs.isEmpty = true then (match t e.cls with
    | some true => (match al e.cls with
      | some b => .nx (((δ'.set i .un).set j (.v (.bl b))).set i .un)
      | none => .stk)
    | some false => .exc e δ'
    | none => .stk) else .stk
  | r => r) := id rfl
end Fs

/-! MCh: how many sets: plain mathematics. -/
namespace MCh
def ch : Nat → Nat → Nat
  | _, 0 => 1
  | 0, _ + 1 => 0
  | n + 1, k + 1 => ch n k + ch n (k + 1)
def fac : Nat → Nat
  | 0 => 1
  | n + 1 => fac n * (n + 1)
/-- n (n - 1) .., k of them -/
def fall (n : Nat) : Nat → Nat
  | 0 => 1
  | k + 1 => fall n k * (n - k)
theorem ch_0 (n : Nat) : ch n 0 = 1 := by cases n <;> rfl
theorem ch_small : ∀ {n k : Nat}, n < k → ch n k = 0
  | 0, k + 1, _ => rfl
  | n + 1, k + 1, h => by
    show ch n k + ch n (k + 1) = 0
    rw [ch_small (by omega), ch_small (by omega)]
theorem ch_self : ∀ n : Nat, ch n n = 1
  | 0 => rfl
  | n + 1 => by
    show ch n n + ch n (n + 1) = 1
    rw [ch_self n, ch_small (by omega)]
theorem ch_abs : ∀ n k : Nat, ch n (k + 1) * (k + 1) = ch n k * (n - k)
  | 0, 0 => rfl
  | 0, k + 1 => by
    show 0 * (k + 2) = 0 * (0 - (k + 1))
    simp
  | n + 1, 0 => by
    have ih : ch n 1 * 1 = ch n 0 * n := ch_abs n 0
    rw [ch_0] at ih
    show (ch n 0 + ch n 1) * 1 = ch (n + 1) 0 * (n + 1)
    rw [ch_0, ch_0]
    omega
  | n + 1, k + 1 => by
    have i1 := ch_abs n k
    have i2 := ch_abs n (k + 1)
    show (ch n (k + 1) + ch n (k + 2)) * (k + 2) = (ch n k + ch n (k + 1)) * (n + 1 - (k + 1))
    by_cases h : k + 1 ≤ n
    · obtain ⟨r, rfl⟩ : ∃ r, n = k + 1 + r := ⟨n - (k + 1), by omega⟩
      have e1 : k + 1 + r - k = r + 1 := by omega
      have e2 : k + 1 + r - (k + 1) = r := by omega
      have e3 : k + 1 + r + 1 - (k + 1) = r + 1 := by omega
      rw [e1] at i1
      rw [e2] at i2
      rw [e3, Nat.add_mul, Nat.add_mul, i2, ← i1]
      rw [← Nat.mul_add, ← Nat.mul_add]
      congr 1
      omega
    · have z1 : ch n (k + 1) = 0 := ch_small (by omega)
      have z2 : ch n (k + 2) = 0 := ch_small (by omega)
      rw [z1, z2]
      by_cases h2 : k ≤ n
      · have e : k = n := by omega
        subst e
        simp
      · rw [ch_small (by omega : n < k)]
        simp
theorem ch_fac (n : Nat) : ∀ k : Nat, ch n k * fac k = fall n k
  | 0 => by rw [ch_0]; rfl
  | k + 1 => by
    show ch n (k + 1) * (fac k * (k + 1)) = fall n k * (n - k)
    rw [← ch_fac n k, Nat.mul_comm (fac k), ← Nat.mul_assoc, ch_abs, Nat.mul_assoc, Nat.mul_comm (n - k), ← Nat.mul_assoc]
theorem ch_symm : ∀ (s a b : Nat), a + b = s → ch s a = ch s b
  | s, 0, b, h => by
    have e : b = s := by omega
    subst e
    rw [ch_0, ch_self]
  | s, a + 1, 0, h => by
    have e : a + 1 = s := by omega
    subst e
    rw [ch_0, ch_self]
  | 0, a + 1, b + 1, h => by omega
  | s + 1, a + 1, b + 1, h => by
    show ch s a + ch s (a + 1) = ch s b + ch s (b + 1)
    rw [ch_symm s a (b + 1) (by omega), ch_symm s (a + 1) b (by omega), Nat.add_comm]
theorem fac_pos : ∀ n : Nat, 0 < fac n
  | 0 => Nat.one_pos
  | n + 1 => Nat.mul_pos (fac_pos n) (Nat.succ_pos n)
theorem fall_le (n : Nat) : ∀ k : Nat, fall n k ≤ n ^ k
  | 0 => Nat.le_refl _
  | k + 1 => by
    show fall n k * (n - k) ≤ n ^ (k + 1)
    rw [Nat.pow_succ]
    exact Nat.mul_le_mul (fall_le n k) (Nat.sub_le _ _)
theorem ch_le (n k : Nat) : ch n k ≤ n ^ k := by
  have h := ch_fac n k
  have h2 := fall_le n k
  have h3 := Nat.le_mul_of_pos_right (ch n k) (fac_pos k)
  omega
theorem ch_lt {n k a : Nat} (h : n < 2 ^ a) : ch n k < 2 ^ (a * k + 1) := by
  have h1 := ch_le n k
  have h2 : n ^ k ≤ (2 ^ a) ^ k := Nat.pow_le_pow_left (Nat.le_of_lt h) k
  rw [← Nat.pow_mul] at h2
  have h3 : 2 ^ (a * k) < 2 ^ (a * k + 1) := Nat.pow_lt_pow_right (by omega) (by omega)
  omega
theorem ch_div (n k : Nat) : ch n k * (n - k) / (k + 1) = ch n (k + 1) := by
  rw [← ch_abs, Nat.mul_div_cancel _ (Nat.succ_pos k)]
theorem fall_zero {n : Nat} : ∀ {k : Nat}, n < k → fall n k = 0
  | 0, h => by omega
  | k + 1, h => by
    show fall n k * (n - k) = 0
    by_cases h2 : n < k
    · rw [fall_zero h2, Nat.zero_mul]
    · rw [show n - k = 0 by omega, Nat.mul_zero]
theorem ch_absorb (n k : Nat) : ch (n + 1) (k + 1) * (k + 1) = (n + 1) * ch n k := by
  have h := ch_abs n k
  show (ch n k + ch n (k + 1)) * (k + 1) = _
  rw [Nat.add_mul, h]
  by_cases h2 : k ≤ n
  · rw [← Nat.mul_add, Nat.mul_comm (n + 1)]
    congr 1
    omega
  · rw [ch_small (by omega : n < k)]
    simp
/-- how many bags -/
def bg (n m : Nat) : Nat := ch (n + m - 1) m
theorem bg_step (n k : Nat) : bg n (k + 1) * (k + 1) = bg n k * (n + k) := by
  unfold bg
  by_cases h : n + k = 0
  · have h1 : n = 0 := by omega
    have h2 : k = 0 := by omega
    subst h1 h2
    rfl
  · obtain ⟨N, hN⟩ : ∃ N, n + k = N + 1 := ⟨n + k - 1, by omega⟩
    rw [show n + (k + 1) - 1 = N + 1 by omega, show n + k - 1 = N by omega, ch_absorb, hN, Nat.mul_comm]
theorem bg_0 (n : Nat) : bg n 0 = 1 := ch_0 _
theorem bg_div (n k : Nat) : bg n k * (n + k) / (k + 1) = bg n (k + 1) := by
  rw [← bg_step, Nat.mul_div_cancel _ (Nat.succ_pos k)]
def gd (xs : List Nat) (k : Nat) : Nat := xs.getD k 0
/-- the rank of a set, of its first k numbers -/
def rkF (xs : List Nat) : Nat → Nat
  | 0 => 0
  | k + 1 => rkF xs k + ch (gd xs k) (k + 1)
def rk (xs : List Nat) : Nat := rkF xs xs.length
theorem gd_mem {xs : List Nat} {k : Nat} (h : k < xs.length) : gd xs k ∈ xs := by
  simp [gd, List.getD, h]
/-- a product of numbers -/
def pr (f : Nat → Int) : Nat → Int
  | 0 => 1
  | k + 1 => pr f k * f k
theorem pr_lt {f : Nat → Int} {a : Nat} : ∀ k, (∀ j, j < k → (f j).natAbs < 2 ^ a) → (pr f k).natAbs < 2 ^ (a * k + 1)
  | 0, _ => by
    show (1 : Int).natAbs < 2 ^ (a * 0 + 1)
    simp
  | k + 1, h => by
    show (pr f k * f k).natAbs < _
    rw [Int.natAbs_mul, show a * (k + 1) + 1 = (a * k + 1) + a by rw [Nat.mul_succ]; omega, Nat.pow_add]
    exact Nat.mul_lt_mul'' (pr_lt k fun j hj => h j (by omega)) (h k (by omega))
theorem pr_fall (n : Nat) : ∀ k, pr (fun i => (n : Int) - (i : Nat)) k = (fall n k : Nat)
  | 0 => rfl
  | k + 1 => by
    show pr (fun i => (n : Int) - (i : Nat)) k * ((n : Int) - (k : Nat)) = ((fall n k * (n - k) : Nat) : Int)
    rw [pr_fall n k]
    by_cases h : k ≤ n
    · rw [Int.natCast_mul, Int.ofNat_sub h]
    · rw [fall_zero (by omega)]
      simp
theorem pr_rise (n : Nat) : ∀ k, pr (fun i => (n : Int) + (i : Nat)) k = ((bg n k * fac k : Nat) : Int)
  | 0 => by
    rw [bg_0]
    rfl
  | k + 1 => by
    show pr (fun i => (n : Int) + (i : Nat)) k * ((n : Int) + (k : Nat)) = ((bg n (k + 1) * (fac k * (k + 1)) : Nat) : Int)
    rw [pr_rise n k, Nat.mul_comm (fac k), ← Nat.mul_assoc, bg_step, ← Int.natCast_add, ← Int.natCast_mul, Nat.mul_assoc, Nat.mul_comm (fac k), Nat.mul_assoc]
end MCh

/-! MRk: ranks of sets: plain mathematics. -/
namespace MCh
theorem ch_pos : ∀ {n k : Nat}, k ≤ n → 1 ≤ ch n k
  | n, 0, _ => by rw [ch_0]; exact Nat.le_refl 1
  | 0, k + 1, h => by omega
  | n + 1, k + 1, h => by
    show 1 ≤ ch n k + ch n (k + 1)
    have := ch_pos (n := n) (k := k) (by omega)
    omega
theorem ch_pascal (n k : Nat) : ch (n + 1) (k + 1) = ch n k + ch n (k + 1) := rfl
theorem ch_mono1 (n k : Nat) : ch n k ≤ ch (n + 1) k := by
  cases k with
  | zero => rw [ch_0, ch_0]; exact Nat.le_refl 1
  | succ k => rw [ch_pascal]; omega
theorem ch_mono {a b k : Nat} (h : a ≤ b) : ch a k ≤ ch b k := by
  obtain ⟨d, rfl⟩ : ∃ d, b = a + d := ⟨b - a, by omega⟩
  clear h
  induction d with
  | zero => exact Nat.le_refl _
  | succ d ih => exact Nat.le_trans ih (ch_mono1 _ _)
theorem ch_lb : ∀ (n k : Nat), n ≤ ch n (k + 1) + k
  | 0, k => by omega
  | n + 1, k => by
    rw [ch_pascal]
    have ih := ch_lb n k
    by_cases h : k ≤ n
    · have := ch_pos h
      omega
    · omega
theorem ch_1 (n : Nat) : ch n 1 = n := by
  induction n with
  | zero => rfl
  | succ n ih => rw [ch_pascal, ch_0, ih]; omega
theorem lt_of_ch {a b k : Nat} (h : ch a k < ch b k) : a < b := by
  by_cases h2 : a < b
  · exact h2
  · have := ch_mono (k := k) (show b ≤ a by omega)
    omega
/-- the rank, along the list -/
def rkO : List Nat → Nat → Nat
  | [], _ => 0
  | x :: xs, s => ch x (s + 1) + rkO xs (s + 1)
def rkG (xs : List Nat) (s : Nat) : Nat → Nat
  | 0 => 0
  | k + 1 => rkG xs s k + ch (gd xs k) (s + k + 1)
theorem gd_cons0 (x : Nat) (xs : List Nat) : gd (x :: xs) 0 = x := rfl
theorem gd_cons (x : Nat) (xs : List Nat) (k : Nat) : gd (x :: xs) (k + 1) = gd xs k := rfl
theorem rkG_cons (x : Nat) (xs : List Nat) (s : Nat) : ∀ k, rkG (x :: xs) s (k + 1) = ch x (s + 1) + rkG xs (s + 1) k
  | 0 => by
    show 0 + ch (gd (x :: xs) 0) (s + 0 + 1) = ch x (s + 1) + 0
    rw [gd_cons0]
    simp
  | k + 1 => by
    show rkG (x :: xs) s (k + 1) + ch (gd (x :: xs) (k + 1)) (s + (k + 1) + 1) = ch x (s + 1) + (rkG xs (s + 1) k + ch (gd xs k) (s + 1 + k + 1))
    rw [rkG_cons x xs s k, gd_cons, show s + (k + 1) + 1 = s + 1 + k + 1 by omega, Nat.add_assoc]
theorem rkG_O : ∀ (xs : List Nat) (s : Nat), rkG xs s xs.length = rkO xs s
  | [], s => rfl
  | x :: xs, s => by
    rw [List.length_cons, rkG_cons, rkG_O xs (s + 1)]
    rfl
theorem rkF_G (xs : List Nat) : ∀ k, rkF xs k = rkG xs 0 k
  | 0 => rfl
  | k + 1 => by
    show rkF xs k + ch (gd xs k) (k + 1) = rkG xs 0 k + ch (gd xs k) (0 + k + 1)
    rw [rkF_G xs k, Nat.zero_add]
theorem rk_O (xs : List Nat) : rk xs = rkO xs 0 := by
  unfold rk
  rw [rkF_G, rkG_O]
/-- rising -/
def ris : List Nat → Prop
  | [] => True
  | x :: xs => (∀ y ∈ xs, x < y) ∧ ris xs
theorem ris_gd : ∀ {xs : List Nat} {k : Nat}, ris xs → k + 1 < xs.length → gd xs k < gd xs (k + 1)
  | [], k, _, h => by simp at h
  | x :: xs, 0, h, hk => by
    rw [gd_cons0, gd_cons]
    exact h.1 _ (gd_mem (by simpa using hk))
  | x :: xs, k + 1, h, hk => by
    rw [gd_cons, gd_cons]
    exact ris_gd h.2 (by simpa using hk)
/-- the number ahead of place k -/
def lst (xs : List Nat) : Nat → Int
  | 0 => -1
  | k + 1 => (gd xs k : Nat)
theorem ris_lst {xs : List Nat} {k : Nat} (h : ris xs) (hk : k < xs.length) : lst xs k < (gd xs k : Nat) := by
  cases k with
  | zero => show (-1 : Int) < _; omega
  | succ k =>
    show ((gd xs k : Nat) : Int) < _
    have := ris_gd h hk
    omega
def mk (n : Nat) (h : Nat → Nat) : List Nat := (List.range n).map h
theorem mk_len (n : Nat) (h : Nat → Nat) : (mk n h).length = n := by simp [mk]
theorem gd_mk {n : Nat} {h : Nat → Nat} {k : Nat} (hk : k < n) : gd (mk n h) k = h k := by simp [gd, mk, List.getD, hk]
theorem mk_gd (xs : List Nat) : mk xs.length (gd xs) = xs := by
  apply List.ext_getElem
  · simp [mk]
  · intro i h1 h2
    simp [mk, gd, List.getD, h2]
theorem mk_congr {n : Nat} {f g : Nat → Nat} (h : ∀ k, k < n → f k = g k) : mk n f = mk n g := by
  unfold mk
  apply List.map_congr_left
  intro k hk
  exact h k (List.mem_range.mp hk)
theorem mk_mem {n : Nat} {h : Nat → Nat} {x : Nat} (hx : x ∈ mk n h) : ∃ k, k < n ∧ x = h k := by
  simp only [mk, List.mem_map, List.mem_range] at hx
  obtain ⟨k, h1, h2⟩ := hx
  exact ⟨k, h1, h2.symm⟩
theorem ris_ge {xs : List Nat} (h : ris xs) : ∀ {k : Nat}, k < xs.length → k ≤ gd xs k
  | 0, _ => Nat.zero_le _
  | k + 1, hk => by
    have h1 := ris_ge h (k := k) (by omega)
    have h2 := ris_gd h hk
    omega
theorem rkF_0 {xs : List Nat} : ∀ {n : Nat}, rkF xs n = 0 → ∀ k, k < n → ch (gd xs k) (k + 1) = 0
  | 0, _, k, h => by omega
  | n + 1, h, k, hk => by
    have h' : rkF xs n + ch (gd xs n) (n + 1) = 0 := h
    by_cases e : k = n
    · subst e
      omega
    · exact rkF_0 (n := n) (by omega) k (by omega)
theorem rk_0 {xs : List Nat} (h : ris xs) (h0 : rk xs = 0) {k : Nat} (hk : k < xs.length) : gd xs k = k := by
  have h1 := rkF_0 h0 k hk
  have h2 := ris_ge h hk
  by_cases e : gd xs k = k
  · exact e
  · have := ch_pos (show k + 1 ≤ gd xs k by omega)
    omega
theorem rkF_congr {xs ys : List Nat} : ∀ {n : Nat}, (∀ k, k < n → gd xs k = gd ys k) → rkF xs n = rkF ys n
  | 0, _ => rfl
  | n + 1, h => by
    show rkF xs n + ch (gd xs n) (n + 1) = rkF ys n + ch (gd ys n) (n + 1)
    rw [rkF_congr (n := n) fun k hk => h k (by omega), h n (by omega)]
/-- the rank of a bag -/
def brF (xs : List Nat) : Nat → Nat
  | 0 => 0
  | k + 1 => brF xs k + bg (gd xs k) (k + 1)
/-- a bag told as a set, and back -/
def spr (xs : List Nat) : List Nat := mk xs.length fun k => gd xs k + k
def uns (xs : List Nat) : List Nat := mk xs.length fun k => gd xs k - k
theorem spr_len (xs : List Nat) : (spr xs).length = xs.length := mk_len _ _
theorem uns_len (xs : List Nat) : (uns xs).length = xs.length := mk_len _ _
theorem brF_spr (xs : List Nat) : ∀ {n : Nat}, n ≤ xs.length → brF xs n = rkF (spr xs) n
  | 0, _ => rfl
  | n + 1, h => by
    show brF xs n + bg (gd xs n) (n + 1) = rkF (spr xs) n + ch (gd (spr xs) n) (n + 1)
    rw [brF_spr xs (n := n) (by omega), spr, gd_mk (by omega)]
    rfl
theorem brF_uns {xs : List Nat} (h : ris xs) : ∀ {n : Nat}, n ≤ xs.length → brF (uns xs) n = rkF xs n
  | 0, _ => rfl
  | n + 1, hn => by
    show brF (uns xs) n + bg (gd (uns xs) n) (n + 1) = rkF xs n + ch (gd xs n) (n + 1)
    have h1 := ris_ge h (k := n) (by omega)
    rw [brF_uns h (n := n) (by omega), uns, gd_mk (by omega), bg, show gd xs n - n + (n + 1) - 1 = gd xs n by omega]
theorem brF_0 {xs : List Nat} : ∀ {n : Nat}, (∀ k, k < n → gd xs k = 0) → brF xs n = 0
  | 0, _ => rfl
  | n + 1, h => by
    show brF xs n + bg (gd xs n) (n + 1) = 0
    rw [brF_0 (n := n) fun k hk => h k (by omega), h n (by omega), bg, ch_small (by omega)]
theorem brF_const {xs : List Nat} {v : Nat} : ∀ {n : Nat}, (∀ k, k < n → gd xs k = v) → brF xs n + 1 = bg (v + 1) n
  | 0, _ => by rw [bg_0]; rfl
  | n + 1, h => by
    show brF xs n + bg (gd xs n) (n + 1) + 1 = bg (v + 1) (n + 1)
    have ih := brF_const (n := n) fun k hk => h k (by omega)
    rw [h n (by omega)]
    unfold bg at *
    rw [show v + 1 + (n + 1) - 1 = (v + n) + 1 by omega, ch_pascal]
    rw [show v + 1 + n - 1 = v + n by omega] at ih
    rw [show v + (n + 1) - 1 = v + n by omega]
    omega
theorem gd_appl {a b : List Nat} {k : Nat} (h : k < a.length) : gd (a ++ b) k = gd a k := by
  simp [gd, List.getD, List.getElem?_append_left h]
theorem gd_appr {a b : List Nat} {k : Nat} (h : a.length ≤ k) : gd (a ++ b) k = gd b (k - a.length) := by
  simp [gd, List.getD, List.getElem?_append_right h]
theorem gd_drop (a : List Nat) (i k : Nat) : gd (a.drop i) k = gd a (i + k) := by
  simp [gd, List.getD]
/-- the bag next behind, raised at place i -/
def nxb (xs : List Nat) (i : Nat) : List Nat := mk i (fun _ => 0) ++ [gd xs i + 1] ++ xs.drop (i + 1)
theorem nxb_len {xs : List Nat} {i : Nat} (h : i < xs.length) : (nxb xs i).length = xs.length := by
  simp [nxb, mk_len]
  omega
theorem gd_nxb_lt {xs : List Nat} {i k : Nat} (h : k < i) : gd (nxb xs i) k = 0 := by
  unfold nxb
  rw [List.append_assoc, gd_appl (by simpa [mk_len] using h), gd_mk h]
theorem gd_nxb_at {xs : List Nat} {i : Nat} : gd (nxb xs i) i = gd xs i + 1 := by
  unfold nxb
  rw [gd_appl (by simp [mk_len]), gd_appr (by simp [mk_len]), mk_len, Nat.sub_self]
  rfl
theorem gd_nxb_gt {xs : List Nat} {i k : Nat} (h : i < k) : gd (nxb xs i) k = gd xs k := by
  unfold nxb
  rw [gd_appr (by simp [mk_len]; omega), gd_drop]
  congr 1
  simp [mk_len]
  omega
theorem brF_nxb {xs : List Nat} {i : Nat} (h : ∀ k, k ≤ i → gd xs k = gd xs 0) : ∀ d, brF (nxb xs i) (i + 1 + d) = brF xs (i + 1 + d) + 1
  | 0 => by
    show brF (nxb xs i) i + bg (gd (nxb xs i) i) (i + 1) = brF xs (i + 1) + 1
    rw [brF_const (v := gd xs 0) fun k hk => h k (by omega), brF_0 fun k hk => gd_nxb_lt hk, gd_nxb_at, h i (Nat.le_refl _), Nat.zero_add]
  | d + 1 => by
    show brF (nxb xs i) (i + 1 + d) + bg (gd (nxb xs i) (i + 1 + d)) (i + 1 + d + 1) = brF xs (i + 1 + d) + bg (gd xs (i + 1 + d)) (i + 1 + d + 1) + 1
    rw [brF_nxb h d, gd_nxb_gt (by omega)]
    omega
theorem nxb_mem {xs : List Nat} {i x : Nat} (hi : i < xs.length) (h : x ∈ nxb xs i) : ∃ y ∈ xs, x ≤ y + 1 := by
  simp only [nxb, List.mem_append, List.mem_singleton] at h
  rcases h with (h | h) | h
  · obtain ⟨k, _, rfl⟩ := mk_mem h
    exact ⟨_, gd_mem hi, Nat.zero_le _⟩
  · exact ⟨_, gd_mem hi, Nat.le_of_eq h⟩
  · exact ⟨x, List.mem_of_mem_drop h, by omega⟩
/-- the number ahead of place k, 0 for none -/
def lsb (xs : List Nat) : Nat → Nat
  | 0 => 0
  | k + 1 => gd xs k
theorem uns_lsb {xs : List Nat} (h : ris xs) {k : Nat} (hk : k < xs.length) : lsb (uns xs) k ≤ gd (uns xs) k := by
  cases k with
  | zero => exact Nat.zero_le _
  | succ k =>
    show gd (uns xs) k ≤ gd (uns xs) (k + 1)
    rw [uns, gd_mk (by omega), gd_mk hk]
    have := ris_gd h hk
    omega
/-- falling lists, their ranks, their order -/
def fal : List Nat → Prop
  | [] => True
  | x :: xs => (∀ y ∈ xs, y < x) ∧ fal xs
def rkR : List Nat → Nat
  | [] => 0
  | x :: xs => ch x (xs.length + 1) + rkR xs
theorem rk_snoc (xs : List Nat) (x : Nat) : rk (xs ++ [x]) = rk xs + ch x (xs.length + 1) := by
  unfold rk
  rw [List.length_append, List.length_singleton]
  show rkF (xs ++ [x]) xs.length + ch (gd (xs ++ [x]) xs.length) (xs.length + 1) = _
  rw [gd_appr (Nat.le_refl _), Nat.sub_self, rkF_congr fun k hk => gd_appl hk]
  rfl
theorem rk_R : ∀ l : List Nat, rk l.reverse = rkR l
  | [] => rfl
  | x :: l => by
    rw [List.reverse_cons, rk_snoc, rk_R l, List.length_reverse]
    show _ = ch x (l.length + 1) + rkR l
    omega
theorem fal_lt : ∀ {l : List Nat} {n : Nat}, fal l → (∀ y ∈ l, y < n) → rkR l < ch n l.length
  | [], n, _, _ => by
    rw [List.length_nil, ch_0]
    exact Nat.one_pos
  | x :: l, n, h, hn => by
    have h1 := fal_lt h.2 h.1
    have h2 := ch_mono (k := l.length + 1) (show x + 1 ≤ n from hn x (by simp))
    rw [ch_pascal] at h2
    show ch x (l.length + 1) + rkR l < ch n (l.length + 1)
    omega
def sgn (a b : Nat) : Int := (if b < a then 1 else 0) - (if a < b then 1 else 0)
def cmpR : List Nat → List Nat → Int
  | x :: xs, y :: ys => if x = y then cmpR xs ys else sgn x y
  | _, _ => 0
theorem sgn_cmpR : ∀ {l m : List Nat}, fal l → fal m → l.length = m.length → sgn (rkR l) (rkR m) = cmpR l m
  | [], [], _, _, _ => by simp [sgn, cmpR, rkR]
  | [], y :: m, _, _, h => by simp at h
  | x :: l, [], _, _, h => by simp at h
  | x :: l, y :: m, h1, h2, h => by
    have hl : l.length = m.length := by simpa using h
    have ih := sgn_cmpR h1.2 h2.2 hl
    have b1 := fal_lt h1.2 h1.1
    have b2 := fal_lt h2.2 h2.1
    have e1 : rkR (x :: l) = ch x (l.length + 1) + rkR l := rfl
    have e2 : rkR (y :: m) = ch y (m.length + 1) + rkR m := rfl
    have p1 := ch_pascal x l.length
    have p2 := ch_pascal y m.length
    by_cases hx : x = y
    · subst hx
      simp only [cmpR, if_pos]
      rw [← ih, e1, e2, hl]
      unfold sgn
      congr 1 <;> split <;> split <;> omega
    · simp only [cmpR, if_neg hx]
      by_cases hlt : x < y
      · have := ch_mono (k := l.length + 1) (show x + 1 ≤ y from hlt)
        rw [hl] at *
        have h3 : rkR (x :: l) < rkR (y :: m) := by omega
        unfold sgn
        rw [if_neg (by omega), if_pos h3, if_neg (by omega), if_pos hlt]
      · have := ch_mono (k := l.length + 1) (show y + 1 ≤ x by omega)
        rw [hl] at *
        have h3 : rkR (y :: m) < rkR (x :: l) := by omega
        unfold sgn
        rw [if_pos h3, if_neg (by omega), if_pos (by omega), if_neg (by omega)]
theorem fal_snoc : ∀ {l : List Nat} {x : Nat}, fal l → (∀ y ∈ l, x < y) → fal (l ++ [x])
  | [], x, _, _ => ⟨by simp, trivial⟩
  | z :: l, x, h, hx => ⟨fun y hy => by
      rcases List.mem_append.mp hy with hy | hy
      · exact h.1 y hy
      · rw [List.mem_singleton.mp hy]
        exact hx z (by simp), fal_snoc h.2 fun y hy => hx y (by simp [hy])⟩
theorem fal_rev : ∀ {xs : List Nat}, ris xs → fal xs.reverse
  | [], _ => trivial
  | x :: xs, h => by
    rw [List.reverse_cons]
    exact fal_snoc (fal_rev h.2) fun y hy => h.1 y (List.mem_reverse.mp hy)
theorem ris_app : ∀ {xs ys : List Nat}, ris xs → ris ys → (∀ x ∈ xs, ∀ y ∈ ys, x < y) → ris (xs ++ ys)
  | [], ys, _, h, _ => h
  | x :: xs, ys, h, h2, h3 => ⟨fun y hy => by
      rcases List.mem_append.mp hy with hy | hy
      · exact h.1 y hy
      · exact h3 x (by simp) y hy, ris_app h.2 h2 fun a ha => h3 a (by simp [ha])⟩
theorem ris_snoc : ∀ {xs : List Nat} {y : Nat}, ris xs → (∀ x ∈ xs, x < y) → ris (xs ++ [y])
  | xs, y, h, h2 => ris_app h ⟨by simp, trivial⟩ fun a ha b hb => by
      rw [List.mem_singleton.mp hb]
      exact h2 a ha
end MCh

namespace Fs
open PySem L2 MCh
theorem nD_gd (xs : List Nat) {k : Nat} (h : k < xs.length) : atI (nD xs) (k : Int) = some (.int (gd xs k : Nat)) := nD_atD xs h
@[simp] theorem v_at0 (a : D) (l : List D) : atI (a :: l) 0 = some a := atI_ofNat (a :: l) (j := 0) (by simp)
@[simp] theorem v_at1 (a b : D) (l : List D) : atI (a :: b :: l) 1 = some b := atI_ofNat (a :: b :: l) (j := 1) (by simp)
@[simp] theorem v_at2 (a b c : D) (l : List D) : atI (a :: b :: c :: l) 2 = some c := atI_ofNat (a :: b :: c :: l) (j := 2) (by simp)
@[simp] theorem v_at3 (a b c d : D) (l : List D) : atI (a :: b :: c :: d :: l) 3 = some d := atI_ofNat (a :: b :: c :: d :: l) (j := 3) (by simp)
theorem enumD_eq (xs : List Nat) : enumD (nD xs) = (List.range xs.length).map fun (k : Nat) => D.tup [.int (k : Int), .int (gd xs k : Nat)] := by
  apply List.ext_getElem
  · simp [enumD]
  · intro i h1 h2
    have h3 : i < xs.length := by simpa using h2
    simp [enumD, nD, gd, List.getD, h3]
theorem lcD_rng {p : Pt} {c : T} {e : E} {δ : Sl} (g f : Nat → D) (n : Nat) (h : ∀ k, k < n → ∃ δ1, bindP p (g k) δ = some δ1 ∧ c δ1 = .ok true ∧ e δ1 = .ok (f k)) : lcD p c e δ ((List.range n).map g) = .ok ((List.range n).map f) := by
  have key : ∀ l : List Nat, (∀ k ∈ l, k < n) → lcD p c e δ (l.map g) = .ok (l.map f) := by
    intro l
    induction l with
    | nil => intro _; rfl
    | cons x l ih =>
      intro hl
      obtain ⟨δ1, e1, e2, e3⟩ := h x (hl x (by simp))
      have := ih fun k hk => hl k (by simp [hk])
      simp only [List.map_cons, lcD, e1, e2, e3, this]
  exact key _ fun k hk => List.mem_range.mp hk
theorem lcD_mapL {α : Type} {p : Pt} {c : T} {e : E} {δ : Sl} (g f : α → D) : ∀ l : List α, (∀ a ∈ l, ∃ δ1, bindP p (g a) δ = some δ1 ∧ c δ1 = .ok true ∧ e δ1 = .ok (f a)) → lcD p c e δ (l.map g) = .ok (l.map f)
  | [], _ => rfl
  | x :: l, h => by
    obtain ⟨δ1, e1, e2, e3⟩ := h x (by simp)
    have ih := lcD_mapL (p := p) (c := c) (e := e) (δ := δ) g f l fun k hk => h k (by simp [hk])
    simp only [List.map_cons, lcD, e1, e2, e3, ih]
theorem lcD_rngD {p : Pt} {c : T} {e : E} {δ : Sl} (f : Nat → D) (n : Nat) (h : ∀ k, k < n → ∃ δ1, bindP p (.int (k : Int)) δ = some δ1 ∧ c δ1 = .ok true ∧ e δ1 = .ok (f k)) : lcD p c e δ (rngD 0 n) = .ok ((List.range n).map f) := by
  have e : rngD 0 n = (List.range n).map fun (k : Nat) => D.int (k : Int) := by
    unfold rngD
    apply List.map_congr_left
    intro a _
    rw [Int.zero_add]
  rw [e]
  exact lcD_rng _ f n h
theorem nD_as (xs : List Nat) : nD xs = (List.range xs.length).map fun (k : Nat) => D.int (gd xs k : Nat) := by
  have h := mk_gd xs
  unfold mk at h
  rw [← h]
  simp [nD]
  intro a ha
  simp [gd, List.getD, ha]
theorem lcD_nD {p : Pt} {c : T} {e : E} {δ : Sl} (f : Nat → D) (xs : List Nat) (h : ∀ k, k < xs.length → ∃ δ1, bindP p (.int (gd xs k : Nat)) δ = some δ1 ∧ c δ1 = .ok true ∧ e δ1 = .ok (f k)) : lcD p c e δ (nD xs) = .ok ((List.range xs.length).map f) := by
  rw [nD_as]
  exact lcD_rng _ f _ h
theorem nD_rng (h : Nat → Nat) (n : Nat) : (List.range n).map (fun k => D.int (h k : Nat)) = nD ((List.range n).map h) := by simp [nD]
theorem nD_set (xs : List Nat) (j v : Nat) : (nD xs).set j (.int (v : Int)) = nD (xs.set j v) := by simp [nD, List.map_set]
theorem mk_set (n : Nat) (f : Nat → Nat) (j v : Nat) : (mk n f).set j v = mk n fun t => if t = j then v else f t := by
  apply List.ext_getElem
  · simp [mk]
  · intro i h1 h2
    simp only [mk, List.getElem_set, List.getElem_map, List.getElem_range]
    by_cases h : j = i
    · subst h; simp
    · rw [if_neg h, if_neg (fun z => h z.symm)]
theorem forN {p : Pt} {body : S} {xs : List Nat} {δ : Sl} (Inv : Nat → Sl → Prop) (h0 : Inv 0 δ)
    (hs : ∀ i (h : i < xs.length) δ, Inv i δ → ∃ δ1, bindP p (.int (gd xs i : Nat)) δ = some δ1 ∧ ∃ δ2, body δ1 = .nx δ2 ∧ Inv (i + 1) δ2) : ∃ δ', forD p body (nD xs) δ = .nx δ' ∧ Inv xs.length δ' := by
  have z := forL (p := p) (body := body) (xs := xs.map fun (x : Nat) => (x : Int)) Inv h0 fun i h δ hi => by
    have h' : i < xs.length := by simpa using h
    have e : (xs.map fun (x : Nat) => (x : Int))[i] = (gd xs i : Nat) := by simp [gd, List.getD, h']
    rw [e]
    exact hs i h' δ hi
  rw [List.length_map, ← nD_eq] at z
  exact z
theorem eqO_T2 (a b c d : Int) : eqO (.tup [.int a, .int b]) (.tup [.int c, .int d]) = some (decide (a = c ∧ b = d)) := by
  have h : eqO (.tup [.int a, .int b]) (.tup [.int c, .int d]) = eqPy (.tup [.int a, .int b]) (.tup [.int c, .int d]) := by simp [eqO]
  rw [h]
  by_cases h1 : a = c <;> by_cases h2 : b = d <;> simp [eqPy, toPy, toPyL, SeqAt.shaped, PyData.canLay0, PyData.canLayAll0, PyData.depth, PyData.depthAll, PyData.eqv, PyData.eqvAll, h1, h2]
@[simp] theorem v_eqT2 (a b c d : Int) : gEq (.tup [.int a, .int b]) (.tup [.int c, .int d]) = some (.bl (decide (a = c ∧ b = d))) := by simp [gEq, eqO_T2]
@[simp] theorem v_neT2 (a b c d : Int) : gNe (.tup [.int a, .int b]) (.tup [.int c, .int d]) = some (.bl (!decide (a = c ∧ b = d))) := by simp [gNe, eqO_T2]
/-- a while loop whose turns are counted ahead -/
theorem whileK {c : T} {body : S} (Inv : Nat → Sl → Prop)
    (hs : ∀ k δ, Inv k δ → c δ = .ok false ∨ (c δ = .ok true ∧ ∃ δ2, body δ = .nx δ2 ∧ ∃ k', k' < k ∧ Inv k' δ2)) : ∀ (n k : Nat) (δ : Sl), Inv k δ → k < n → ∃ δ' k', whileD c body n δ = .nx δ' ∧ Inv k' δ' ∧ c δ' = .ok false
  | 0, k, δ, _, h => by omega
  | n + 1, k, δ, hi, h => by
    rcases hs k δ hi with hc | ⟨hc, δ2, hb, k2, hk, hi2⟩
    · exact ⟨δ, k, by simp only [whileD, hc], hi, hc⟩
    · obtain ⟨δ', k', e, h2⟩ := whileK Inv hs n k2 δ2 hi2 (by omega)
      exact ⟨δ', k', by simp only [whileD, hc, hb, e], h2⟩
/-- a loop over a range from its end -/
theorem forRev {p : Pt} {body : S} {n : Nat} {δ : Sl} (Inv : Nat → Sl → Prop) (h0 : Inv 0 δ)
    (hs : ∀ i δ, i < n → Inv i δ → ∃ δ1, bindP p (.int ((n - i : Nat) : Int)) δ = some δ1 ∧ ∃ δ2, body δ1 = .nx δ2 ∧ Inv (i + 1) δ2) : ∃ δ', forD p body (rngD 1 n).reverse δ = .nx δ' ∧ Inv n δ' := by
  have z := forD_inv (p := p) (body := body) Inv (rngD 1 n).reverse 0 δ h0 fun i d δ hd hi => by
    have h1 : i < n := by
      have := (List.getElem?_eq_some_iff.mp hd).1
      simpa [rngD] using this
    rw [List.getElem?_reverse (by simpa [rngD] using h1), rngD_length] at hd
    obtain ⟨h2, h3⟩ := rngD_some hd
    have h4 : (1 : Int) + ((n - 1 - i : Nat) : Int) = ((n - i : Nat) : Int) := by omega
    rw [h4] at h3
    subst h3
    rw [Nat.zero_add] at hi ⊢
    exact hs i δ h1 hi
  rw [Nat.zero_add, List.length_reverse, rngD_length] at z
  exact z
end Fs

namespace Law
open PySem L2 Fs
/-! the text by places -/
def topS (i : Nat) : Stmt := PySem.Challenge.pw_countgen_k27_trees_in_order.main.body.getD i (.Pass ⟨0, 0, 0, 0⟩)
abbrev s_l_cell_at : Stmt := topS 26
abbrev N_l_cell_at : List Str := ["_law_script", "_law_k"]
abbrev P_l_cell_at : List Str := ["_law_script", "_law_k"]
theorem sc_l_cell_at : FnScope N_l_cell_at P_l_cell_at (defScope s_l_cell_at) := ⟨rfl, rfl, rfl, by decide +kernel, rfl, by decide +kernel, by decide +kernel⟩
abbrev s_l_name : Stmt := topS 27
abbrev N_l_name : List Str := ["_law_cell", "_law_k", "_law_letters", "_law_size", "_law_at", "_law_found", "_law_j", "_law_number"]
abbrev P_l_name : List Str := ["_law_cell", "_law_k"]
theorem sc_l_name : FnScope N_l_name P_l_name (defScope s_l_name) := ⟨rfl, rfl, rfl, by decide +kernel, rfl, by decide +kernel, by decide +kernel⟩
abbrev s_l_book : Stmt := topS 28
abbrev N_l_book : List Str := ["_law_script", "_law_cell", "_law_name_here", "_law_low", "_law_leaf_here", "_law_node", "_law_marks", "_law_k"]
abbrev P_l_book : List Str := ["_law_script"]
theorem sc_l_book : FnScope N_l_book P_l_book (defScope s_l_book) := ⟨rfl, rfl, rfl, by decide +kernel, rfl, by decide +kernel, by decide +kernel⟩
abbrev s_l_in_order : Stmt := topS 33
abbrev N_l_in_order : List Str := ["_law_rows", "_law_some", "_law_i", "_law_j", "_law_k"]
abbrev P_l_in_order : List Str := ["_law_rows", "_law_some"]
theorem sc_l_in_order : FnScope N_l_in_order P_l_in_order (defScope s_l_in_order) := ⟨rfl, rfl, rfl, by decide +kernel, rfl, by decide +kernel, by decide +kernel⟩
abbrev s_l_leaf : Stmt := topS 29
abbrev N_l_leaf : List Str := ["_law_branch", "_law_cell", "_law_step"]
abbrev P_l_leaf : List Str := ["_law_branch", "_law_cell"]
theorem sc_l_leaf : FnScope N_l_leaf P_l_leaf (defScope s_l_leaf) := ⟨rfl, rfl, rfl, by decide +kernel, rfl, by decide +kernel, by decide +kernel⟩
abbrev s_l_put : Stmt := topS 30
abbrev N_l_put : List Str := ["_law_stack", "_law_branches", "_law_cell", "_law_way", "_law_many", "_law_some", "_law_deep", "_law_things", "_law_size", "_law_left", "_law_tree"]
abbrev P_l_put : List Str := ["_law_stack", "_law_branches", "_law_cell"]
theorem sc_l_put : FnScope N_l_put P_l_put (defScope s_l_put) := ⟨rfl, rfl, rfl, by decide +kernel, rfl, by decide +kernel, by decide +kernel⟩
abbrev s_l_copy : Stmt := topS 31
abbrev N_l_copy : List Str := ["_law_value", "_law_thing"]
abbrev P_l_copy : List Str := ["_law_value"]
theorem sc_l_copy : FnScope N_l_copy P_l_copy (defScope s_l_copy) := ⟨rfl, rfl, rfl, by decide +kernel, rfl, by decide +kernel, by decide +kernel⟩
abbrev s_l_whole : Stmt := topS 25
abbrev N_l_whole : List Str := ["_law_found"]
abbrev P_l_whole : List Str := ["_law_found"]
theorem sc_l_whole : FnScope N_l_whole P_l_whole (defScope s_l_whole) := ⟨rfl, rfl, rfl, by decide +kernel, rfl, by decide +kernel, by decide +kernel⟩
abbrev s_place_of : Stmt := topS 8
abbrev N_place_of : List Str := ["branches", "mark", "k", "branch"]
abbrev P_place_of : List Str := ["branches", "mark"]
theorem sc_place_of : FnScope N_place_of P_place_of (defScope s_place_of) := ⟨rfl, rfl, rfl, by decide +kernel, rfl, by decide +kernel, by decide +kernel⟩
abbrev s_shape_of : Stmt := topS 5
abbrev N_shape_of : List Str := ["book", "name", "other", "shape"]
abbrev P_shape_of : List Str := ["book", "name"]
theorem sc_shape_of : FnScope N_shape_of P_shape_of (defScope s_shape_of) := ⟨rfl, rfl, rfl, by decide +kernel, rfl, by decide +kernel, by decide +kernel⟩
abbrev s_fits_parts : Stmt := topS 20
abbrev N_fits_parts : List Str := ["book", "parts", "things", "part", "thing"]
abbrev P_fits_parts : List Str := ["book", "parts", "things"]
theorem sc_fits_parts : FnScope N_fits_parts P_fits_parts (defScope s_fits_parts) := ⟨rfl, rfl, rfl, by decide +kernel, rfl, by decide +kernel, by decide +kernel⟩
abbrev s_fits_list : Stmt := topS 22
abbrev N_fits_list : List Str := ["book", "shape", "things", "thing"]
abbrev P_fits_list : List Str := ["book", "shape", "things"]
theorem sc_fits_list : FnScope N_fits_list P_fits_list (defScope s_fits_list) := ⟨rfl, rfl, rfl, by decide +kernel, rfl, by decide +kernel, by decide +kernel⟩
abbrev s_fits_branch : Stmt := topS 21
abbrev N_fits_branch : List Str := ["book", "branches", "pair", "at"]
abbrev P_fits_branch : List Str := ["book", "branches", "pair"]
theorem sc_fits_branch : FnScope N_fits_branch P_fits_branch (defScope s_fits_branch) := ⟨rfl, rfl, rfl, by decide +kernel, rfl, by decide +kernel, by decide +kernel⟩
abbrev s_fits : Stmt := topS 19
abbrev N_fits : List Str := ["book", "shape", "value", "sign"]
abbrev P_fits : List Str := ["book", "shape", "value"]
theorem sc_fits : FnScope N_fits P_fits (defScope s_fits) := ⟨rfl, rfl, rfl, by decide +kernel, rfl, by decide +kernel, by decide +kernel⟩
abbrev s_measured : Stmt := topS 9
abbrev N_measured : List Str := ["book", "shape", "value", "part", "thing"]
abbrev P_measured : List Str := ["book", "shape", "value"]
theorem sc_measured : FnScope N_measured P_measured (defScope s_measured) := ⟨rfl, rfl, rfl, by decide +kernel, rfl, by decide +kernel, by decide +kernel⟩
abbrev s_sign_of : Stmt := topS 7
abbrev N_sign_of : List Str := ["number"]
abbrev P_sign_of : List Str := ["number"]
theorem sc_sign_of : FnScope N_sign_of P_sign_of (defScope s_sign_of) := ⟨rfl, rfl, rfl, by decide +kernel, rfl, by decide +kernel, by decide +kernel⟩
abbrev s_order_of_texts : Stmt := topS 11
abbrev N_order_of_texts : List Str := ["signs", "one", "other", "here", "there"]
abbrev P_order_of_texts : List Str := ["signs", "one", "other"]
theorem sc_order_of_texts : FnScope N_order_of_texts P_order_of_texts (defScope s_order_of_texts) := ⟨rfl, rfl, rfl, by decide +kernel, rfl, by decide +kernel, by decide +kernel⟩
abbrev s_order_of_rows : Stmt := topS 12
abbrev N_order_of_rows : List Str := ["book", "parts", "one", "other", "k", "found"]
abbrev P_order_of_rows : List Str := ["book", "parts", "one", "other"]
theorem sc_order_of_rows : FnScope N_order_of_rows P_order_of_rows (defScope s_order_of_rows) := ⟨rfl, rfl, rfl, by decide +kernel, rfl, by decide +kernel, by decide +kernel⟩
abbrev s_order_of_picks : Stmt := topS 13
abbrev N_order_of_picks : List Str := ["book", "branches", "one", "other", "near", "far"]
abbrev P_order_of_picks : List Str := ["book", "branches", "one", "other"]
theorem sc_order_of_picks : FnScope N_order_of_picks P_order_of_picks (defScope s_order_of_picks) := ⟨rfl, rfl, rfl, by decide +kernel, rfl, by decide +kernel, by decide +kernel⟩
abbrev s_order : Stmt := topS 10
abbrev N_order : List Str := ["book", "shape", "one", "other", "near", "far", "thing"]
abbrev P_order : List Str := ["book", "shape", "one", "other"]
theorem sc_order : FnScope N_order P_order (defScope s_order) := ⟨rfl, rfl, rfl, by decide +kernel, rfl, by decide +kernel, by decide +kernel⟩
abbrev s_compared : Stmt := topS 23
abbrev N_compared : List Str := ["book", "shape", "one", "other", "value"]
abbrev P_compared : List Str := ["book", "shape", "one", "other"]
theorem sc_compared : FnScope N_compared P_compared (defScope s_compared) := ⟨rfl, rfl, rfl, by decide +kernel, rfl, by decide +kernel, by decide +kernel⟩
abbrev s_l_table : Stmt := topS 32
abbrev N_l_table : List Str := ["_law_book_here", "_law_some", "_law_rows", "_law_one", "_law_row", "_law_other", "_law_handed", "_law_found"]
abbrev P_l_table : List Str := ["_law_book_here", "_law_some"]
theorem sc_l_table : FnScope N_l_table P_l_table (defScope s_l_table) := ⟨rfl, rfl, rfl, by decide +kernel, rfl, by decide +kernel, by decide +kernel⟩
abbrev s_law : Stmt := topS 34
abbrev N_law : List Str := ["_law_script", "_law_book_here", "_law_branches", "_law_stack", "_law_cell", "_law_some", "_law_rows", "_law_k"]
abbrev P_law : List Str := ["_law_script"]
theorem sc_law : FnScope N_law P_law (defScope s_law) := ⟨rfl, rfl, rfl, by decide +kernel, rfl, by decide +kernel, by decide +kernel⟩
/-! what they say of data -/
def S_l_cell_at : List D → R D := runD 2 (
    sSeq (sIf (tV (eBin gLt (eV 1) (eFn gLen (aCons (eV 0) (aNil))))) (sRet (eBin gIx (eV 0) (eV 1))) (sNx))
    (sRet (eC (.int 0))))
def L_l_name_0 : S := sSeq (sSet 7 (eBin gAdd (eBin gDiv (eV 0) (eBin gMul (eC (.int 64)) (eBin gAdd (eV 6) (eC (.int 1))))) (eBin gMul (eV 6) (eV 6))))
    (sSeq (sIf (tV (eBin gEq (eV 6) (eV 4))) (sSet 7 (eBin gAdd (eV 7) (eV 1))) (sNx))
    (sSet 5 (eBin gAdd (eV 5) (eBin gIx (eV 2) (eBin gMod (eV 7) (eC (.int 26)))))))
def S_l_name : List D → R D := runD 8 (
    sSeq (sSet 2 (eC (.str (Str.ofString "abcdefghijklmnopqrstuvwxyz"))))
    (sSeq (sSet 3 (eBin gAdd (eC (.int 1)) (eBin gMod (eV 0) (eC (.int 8)))))
    (sSeq (sSet 4 (eBin gMod (eBin gDiv (eV 0) (eC (.int 8))) (eV 3)))
    (sSeq (sSet 5 (eC (.str (Str.ofString ""))))
    (sSeq (sFor (iRange1 (aCons (eV 3) (aNil))) (.nm 6) (L_l_name_0))
    (sRet (eV 5)))))))
def S_l_book : List D → R D := runD 8 (
    sSeq (sSet 1 (eCall S_l_cell_at (aCons (eV 0) (aCons (eC (.int 0)) (aNil)))))
    (sSeq (sSet 2 (eCall S_l_name (aCons (eBin gDiv (eV 1) (eC (.int 4))) (aCons (eC (.int 0)) (aNil)))))
    (sSeq (sSet 3 (eBin gSub (eBin gMod (eCall S_l_cell_at (aCons (eV 0) (aCons (eC (.int 1)) (aNil)))) (eBin gPow (eC (.int 10)) (eC (.int 20)))) (eBin gMul (eC (.int 5)) (eBin gPow (eC (.int 10)) (eC (.int 19))))))
    (sSeq (sSet 4 (eTup (aCons (eC (.str (Str.ofString "whole"))) (aCons (eV 3) (aCons (eBin gAdd (eV 3) (eBin gIx (eFz (fLst (aCons (eC (.int 0)) (aCons (eC (.int 1)) (aCons (eC (.int 3)) (aCons (eC (.int 1000)) (aNil))))))) (eBin gMod (eV 1) (eC (.int 4))))) (aNil))))))
    (sSeq (sSet 5 (eTup (aCons (eC (.str (Str.ofString "row"))) (aCons (eTup (aCons (eTup (aCons (eC (.str (Str.ofString "use"))) (aCons (eV 2) (aNil)))) (aCons (eTup (aCons (eC (.str (Str.ofString "use"))) (aCons (eV 2) (aNil)))) (aNil)))) (aNil)))))
    (sSeq (sSet 6 (eFz (fLc (iRange1 (aCons (eC (.int 3)) (aNil))) [7] (.nm 7) (tTrue) (eCall S_l_name (aCons (eBin gDiv (eCall S_l_cell_at (aCons (eV 0) (aCons (eC (.int 1)) (aNil)))) (eC (.int 7))) (aCons (eV 7) (aNil)))))))
    (sRet (eFz (fLst (aCons (eTup (aCons (eV 2) (aCons (eTup (aCons (eC (.str (Str.ofString "pick"))) (aCons (eTup (aCons (eTup (aCons (eBin gIx (eV 6) (eC (.int 0))) (aCons (eV 4) (aNil)))) (aCons (eTup (aCons (eBin gIx (eV 6) (eC (.int 1))) (aCons (eV 5) (aNil)))) (aCons (eTup (aCons (eBin gIx (eV 6) (eC (.int 2))) (aCons (eTup (aCons (eC (.str (Str.ofString "many"))) (aCons (eTup (aCons (eC (.str (Str.ofString "use"))) (aCons (eV 2) (aNil)))) (aNil)))) (aNil)))) (aNil))))) (aNil)))) (aNil)))) (aNil)))))))))))
def L_l_in_order_2 : S := sIf (tAn (tV (eBin gLe (eBin gIx (eBin gIx (eV 0) (eV 2)) (eV 3)) (eC (.int 0)))) (tAn (tV (eBin gLe (eBin gIx (eBin gIx (eV 0) (eV 3)) (eV 4)) (eC (.int 0)))) (tV (eBin gGt (eBin gIx (eBin gIx (eV 0) (eV 2)) (eV 4)) (eC (.int 0)))))) (sRet (eC (.bl false))) (sNx)
def L_l_in_order_1 : S := sSeq (sIf (tOrr (tV (eBin gNe (eBin gEq (eBin gIx (eBin gIx (eV 0) (eV 2)) (eV 3)) (eC (.int 0))) (eBin gEq (eBin gIx (eBin gIx (eV 1) (eV 2)) (eC (.int 0))) (eBin gIx (eBin gIx (eV 1) (eV 3)) (eC (.int 0)))))) (tV (eBin gNe (eBin gIx (eBin gIx (eV 0) (eV 2)) (eV 3)) (eBin gSub (eC (.int 0)) (eBin gIx (eBin gIx (eV 0) (eV 3)) (eV 2)))))) (sRet (eC (.bl false))) (sNx))
    (sSeq (sIf (tAn (tV (eBin gLt (eBin gIx (eBin gIx (eV 1) (eV 2)) (eC (.int 1))) (eBin gIx (eBin gIx (eV 1) (eV 3)) (eC (.int 1))))) (tV (eBin gNe (eBin gIx (eBin gIx (eV 0) (eV 2)) (eV 3)) (eUn gNeg (eC (.int 1)))))) (sRet (eC (.bl false))) (sNx))
    (sFor (iRange1 (aCons (eFn gLen (aCons (eV 1) (aNil))) (aNil))) (.nm 4) (L_l_in_order_2)))
def L_l_in_order_0 : S := sFor (iRange1 (aCons (eFn gLen (aCons (eV 1) (aNil))) (aNil))) (.nm 3) (L_l_in_order_1)
def S_l_in_order : List D → R D := runD 5 (
    sSeq (sFor (iRange1 (aCons (eFn gLen (aCons (eV 1) (aNil))) (aNil))) (.nm 2) (L_l_in_order_0))
    (sRet (eC (.bl true))))
def S_l_leaf : List D → R D := runD 3 (
    sSeq (sSet 2 (eBin gMod (eV 1) (eBin gAdd (eBin gSub (eBin gIx (eBin gIx (eV 0) (eC (.int 1))) (eC (.int 2))) (eBin gIx (eBin gIx (eV 0) (eC (.int 1))) (eC (.int 1)))) (eC (.int 1)))))
    (sRet (eTup (aCons (eTup (aCons (eBin gIx (eV 0) (eC (.int 0))) (aCons (eBin gAdd (eBin gIx (eBin gIx (eV 0) (eC (.int 1))) (eC (.int 1))) (eV 2)) (aNil)))) (aCons (eBin gAdd (eC (.int 1)) (eBits (eV 2))) (aCons (eC (.int 1)) (aNil)))))))
def S_l_put : List D → R D := runD 11 (
    sSeq (sSet 3 (eBin gMod (eV 2) (eC (.int 5))))
    (sSeq (sSet 4 (eBin gIx (eFz (fLst (aCons (eC (.int 0)) (aCons (eC (.int 2)) (aCons (eC (.int 2)) (aCons (eBin gMod (eBin gDiv (eV 2) (eC (.int 5))) (eC (.int 4))) (aCons (eC (.int 0)) (aNil)))))))) (eV 3)))
    (sSeq (sSet 5 (eFz (fLst (aNil))))
    (sSeq (sIf (tV (eChain gLt gLe (eC (.int 0)) (eV 4) (eFn gLen (aCons (eV 0) (aNil))))) (sSet 5 (eSl (eV 0) (oSome (eBin gSub (eFn gLen (aCons (eV 0) (aNil))) (eV 4))) (oNone))) (sNx))
    (sSeq (sSet 6 (eBin gAdd (eC (.int 1)) (eFn gMaxL (aCons (eBin gAdd (eFz (fLst (aCons (eC (.int 0)) (aNil)))) (eFz (fLc (iSeq (eV 5)) [10] (.nm 10) (tTrue) (eBin gIx (eV 10) (eC (.int 2)))))) (aNil)))))
    (sSeq (sIf (tOrr (tV (eBin gGt (eV 6) (eC (.int 10)))) (tAn (tV (eBin gEq (eV 5) (eFz (fLst (aNil))))) (tV (eBin gNe (eV 3) (eC (.int 3)))))) (sRet (eBin gAdd (eV 0) (eFz (fLst (aCons (eCall S_l_leaf (aCons (eBin gIx (eV 1) (eC (.int 0))) (aCons (eBin gDiv (eV 2) (eC (.int 5))) (aNil)))) (aNil)))))) (sNx))
    (sSeq (sSet 7 (eFz (fLc (iSeq (eV 5)) [10] (.nm 10) (tTrue) (eBin gIx (eV 10) (eC (.int 0))))))
    (sSeq (sSet 8 (eBin gAdd (eC (.int 1)) (eFn gSum (aCons (eFz (fLc (iSeq (eV 5)) [10] (.nm 10) (tTrue) (eBin gIx (eV 10) (eC (.int 1))))) (aNil)))))
    (sSeq (sSet 9 (eSl (eV 0) (oNone) (oSome (eBin gSub (eFn gLen (aCons (eV 0) (aNil))) (eFn gLen (aCons (eV 5) (aNil)))))))
    (sSeq (sIf (tV (eBin gEq (eV 3) (eC (.int 3)))) (sRet (eBin gAdd (eV 9) (eFz (fLst (aCons (eTup (aCons (eTup (aCons (eBin gIx (eBin gIx (eV 1) (eC (.int 2))) (eC (.int 0))) (aCons (eV 7) (aNil)))) (aCons (eBin gAdd (eV 8) (eFn gLen (aCons (eV 5) (aNil)))) (aCons (eV 6) (aNil))))) (aNil)))))) (sNx))
    (sRet (eBin gAdd (eV 9) (eFz (fLst (aCons (eTup (aCons (eTup (aCons (eBin gIx (eBin gIx (eV 1) (eC (.int 1))) (eC (.int 0))) (aCons (eFn gTuple (aCons (eV 7) (aNil))) (aNil)))) (aCons (eV 8) (aCons (eV 6) (aNil))))) (aNil))))))))))))))))
def U_l_copy (c_l_copy : List D → R D) : List D → R D := runD 2 (
    sSeq (sIf (tV (eUn (gIsi "list") (eV 0))) (sRet (eFz (fLc (iSeq (eV 0)) [1] (.nm 1) (tTrue) (eCall c_l_copy (aCons (eV 1) (aNil)))))) (sNx))
    (sSeq (sIf (tV (eUn (gIsi "tuple") (eV 0))) (sRet (eFn gTuple (aCons (eFz (fLc (iSeq (eV 0)) [1] (.nm 1) (tTrue) (eCall c_l_copy (aCons (eV 1) (aNil))))) (aNil)))) (sNx))
    (sRet (eV 0))))
def S_l_copy : Nat → List D → R D
  | 0 => fun _ => .stk
  | n + 1 => U_l_copy (S_l_copy n)
def S_l_whole : List D → R D := runD 1 (
    sRet (eAn (eUn (gIsi "int") (eV 0)) (eNt (eUn (gIsi "bool") (eV 0)))))
def L_place_of_0 : S := sIf (tV (eBin gEq (eBin gIx (eV 3) (eC (.int 0))) (eV 1))) (sRet (eV 2)) (sNx)
def S_place_of : List D → R D := runD 4 (
    sSeq (sFor (iEnumE (aCons (eV 0) (aNil))) (.tp [.nm 2, .nm 3]) (L_place_of_0))
    (sRet (eUn gNeg (eC (.int 1)))))
def L_shape_of_0 : S := sIf (tV (eBin gEq (eV 2) (eV 1))) (sRet (eV 3)) (sNx)
def S_shape_of : List D → R D := runD 4 (
    sSeq (sFor (iSeq (eV 0)) (.tp [.nm 2, .nm 3]) (L_shape_of_0))
    (sRaise "NoName"))
def U_fits (c_fits c_fits_branch c_fits_list c_fits_parts : List D → R D) : List D → R D := runD 4 (
    sSeq (sIf (tV (eBin gEq (eBin gIx (eV 1) (eC (.int 0))) (eC (.str (Str.ofString "whole"))))) (sRet (eAn (eUn (gIsi "int") (eV 2)) (eAn (eNt (eUn (gIsi "bool") (eV 2))) (eChain gLe gLe (eBin gIx (eV 1) (eC (.int 1))) (eV 2) (eBin gIx (eV 1) (eC (.int 2))))))) (sNx))
    (sSeq (sIf (tV (eBin gEq (eBin gIx (eV 1) (eC (.int 0))) (eC (.str (Str.ofString "text"))))) (sRet (eAn (eUn (gIsi "str") (eV 2)) (eFn gAll (aCons (eFz (fLc (iSeq (eV 2)) [3] (.nm 3) (tTrue) (eBin gIn (eV 3) (eBin gIx (eV 1) (eC (.int 1)))))) (aNil))))) (sNx))
    (sSeq (sIf (tV (eBin gEq (eBin gIx (eV 1) (eC (.int 0))) (eC (.str (Str.ofString "row"))))) (sRet (eAn (eUn (gIsi "tuple") (eV 2)) (eCall c_fits_parts (aCons (eV 0) (aCons (eBin gIx (eV 1) (eC (.int 1))) (aCons (eV 2) (aNil))))))) (sNx))
    (sSeq (sIf (tV (eBin gEq (eBin gIx (eV 1) (eC (.int 0))) (eC (.str (Str.ofString "pick"))))) (sRet (eAn (eUn (gIsi "tuple") (eV 2)) (eCall c_fits_branch (aCons (eV 0) (aCons (eBin gIx (eV 1) (eC (.int 1))) (aCons (eV 2) (aNil))))))) (sNx))
    (sSeq (sIf (tV (eBin gEq (eBin gIx (eV 1) (eC (.int 0))) (eC (.str (Str.ofString "use"))))) (sRet (eCall c_fits (aCons (eV 0) (aCons (eCall S_shape_of (aCons (eV 0) (aCons (eBin gIx (eV 1) (eC (.int 1))) (aNil)))) (aCons (eV 2) (aNil)))))) (sNx))
    (sRet (eAn (eUn (gIsi "list") (eV 2)) (eCall c_fits_list (aCons (eV 0) (aCons (eV 1) (aCons (eV 2) (aNil))))))))))))
def U_fits_branch (c_fits c_fits_branch c_fits_list c_fits_parts : List D → R D) : List D → R D := runD 4 (
    sSeq (sIf (tOrr (tV (eBin gNe (eFn gLen (aCons (eV 2) (aNil))) (eC (.int 2)))) (tNt (tV (eUn (gIsi "str") (eBin gIx (eV 2) (eC (.int 0))))))) (sRet (eC (.bl false))) (sNx))
    (sSeq (sSet 3 (eCall S_place_of (aCons (eV 1) (aCons (eBin gIx (eV 2) (eC (.int 0))) (aNil)))))
    (sRet (eAn (eBin gGe (eV 3) (eC (.int 0))) (eCall c_fits (aCons (eV 0) (aCons (eBin gIx (eBin gIx (eV 1) (eV 3)) (eC (.int 1))) (aCons (eBin gIx (eV 2) (eC (.int 1))) (aNil)))))))))
def L_fits_list_0 (c_fits c_fits_branch c_fits_list c_fits_parts : List D → R D) : S := sIf (tNt (tV (eCall c_fits (aCons (eV 0) (aCons (eBin gIx (eV 1) (eC (.int 1))) (aCons (eV 3) (aNil))))))) (sRet (eC (.bl false))) (sNx)
def U_fits_list (c_fits c_fits_branch c_fits_list c_fits_parts : List D → R D) : List D → R D := runD 4 (
    sSeq (sFor (iSeq (eV 2)) (.nm 3) (L_fits_list_0 c_fits c_fits_branch c_fits_list c_fits_parts))
    (sSeq (sIf (tV (eBin gEq (eBin gIx (eV 1) (eC (.int 0))) (eC (.str (Str.ofString "rising"))))) (sRet (eStk)) (sNx))
    (sSeq (sIf (tV (eBin gEq (eBin gIx (eV 1) (eC (.int 0))) (eC (.str (Str.ofString "unlike"))))) (sRet (eStk)) (sNx))
    (sSeq (sIf (tV (eBin gEq (eBin gIx (eV 1) (eC (.int 0))) (eC (.str (Str.ofString "alike"))))) (sRet (eStk)) (sNx))
    (sRet (eC (.bl true)))))))
def L_fits_parts_0 (c_fits c_fits_branch c_fits_list c_fits_parts : List D → R D) : S := sIf (tNt (tV (eCall c_fits (aCons (eV 0) (aCons (eV 3) (aCons (eV 4) (aNil))))))) (sRet (eC (.bl false))) (sNx)
def U_fits_parts (c_fits c_fits_branch c_fits_list c_fits_parts : List D → R D) : List D → R D := runD 5 (
    sSeq (sIf (tV (eBin gNe (eFn gLen (aCons (eV 1) (aNil))) (eFn gLen (aCons (eV 2) (aNil))))) (sRet (eC (.bl false))) (sNx))
    (sSeq (sFor (iZipD (aCons (eV 1) (aCons (eV 2) (aNil)))) (.tp [.nm 3, .nm 4]) (L_fits_parts_0 c_fits c_fits_branch c_fits_list c_fits_parts))
    (sRet (eC (.bl true)))))
mutual
def S_fits : Nat → List D → R D
  | 0 => fun _ => .stk
  | n + 1 => U_fits (S_fits n) (S_fits_branch n) (S_fits_list n) (S_fits_parts n)
def S_fits_branch : Nat → List D → R D
  | 0 => fun _ => .stk
  | n + 1 => U_fits_branch (S_fits n) (S_fits_branch n) (S_fits_list n) (S_fits_parts n)
def S_fits_list : Nat → List D → R D
  | 0 => fun _ => .stk
  | n + 1 => U_fits_list (S_fits n) (S_fits_branch n) (S_fits_list n) (S_fits_parts n)
def S_fits_parts : Nat → List D → R D
  | 0 => fun _ => .stk
  | n + 1 => U_fits_parts (S_fits n) (S_fits_branch n) (S_fits_list n) (S_fits_parts n)
end
def U_measured (c_measured : List D → R D) : List D → R D := runD 5 (
    sSeq (sIf (tV (eBin gEq (eBin gIx (eV 1) (eC (.int 0))) (eC (.str (Str.ofString "whole"))))) (sRet (eBits (eBin gSub (eV 2) (eBin gIx (eV 1) (eC (.int 1)))))) (sNx))
    (sSeq (sIf (tV (eBin gEq (eBin gIx (eV 1) (eC (.int 0))) (eC (.str (Str.ofString "text"))))) (sRet (eFn gLen (aCons (eV 2) (aNil)))) (sNx))
    (sSeq (sIf (tV (eBin gEq (eBin gIx (eV 1) (eC (.int 0))) (eC (.str (Str.ofString "row"))))) (sRet (eFn gSum (aCons (eFz (fLc (iZipD (aCons (eBin gIx (eV 1) (eC (.int 1))) (aCons (eV 2) (aNil)))) [3, 4] (.tp [.nm 3, .nm 4]) (tTrue) (eCall c_measured (aCons (eV 0) (aCons (eV 3) (aCons (eV 4) (aNil))))))) (aNil)))) (sNx))
    (sSeq (sIf (tV (eBin gEq (eBin gIx (eV 1) (eC (.int 0))) (eC (.str (Str.ofString "pick"))))) (sRet (eCall c_measured (aCons (eV 0) (aCons (eBin gIx (eBin gIx (eBin gIx (eV 1) (eC (.int 1))) (eCall S_place_of (aCons (eBin gIx (eV 1) (eC (.int 1))) (aCons (eBin gIx (eV 2) (eC (.int 0))) (aNil))))) (eC (.int 1))) (aCons (eBin gIx (eV 2) (eC (.int 1))) (aNil)))))) (sNx))
    (sSeq (sIf (tV (eBin gEq (eBin gIx (eV 1) (eC (.int 0))) (eC (.str (Str.ofString "use"))))) (sRet (eBin gAdd (eC (.int 1)) (eCall c_measured (aCons (eV 0) (aCons (eCall S_shape_of (aCons (eV 0) (aCons (eBin gIx (eV 1) (eC (.int 1))) (aNil)))) (aCons (eV 2) (aNil))))))) (sNx))
    (sRet (eFn gSum (aCons (eFz (fLc (iSeq (eV 2)) [4] (.nm 4) (tTrue) (eBin gAdd (eC (.int 1)) (eCall c_measured (aCons (eV 0) (aCons (eBin gIx (eV 1) (eC (.int 1))) (aCons (eV 4) (aNil)))))))) (aNil)))))))))
def S_measured : Nat → List D → R D
  | 0 => fun _ => .stk
  | n + 1 => U_measured (S_measured n)
def S_sign_of : List D → R D := runD 1 (
    sRet (eBin gSub (eFn gInt (aCons (eBin gGt (eV 0) (eC (.int 0))) (aNil))) (eFn gInt (aCons (eBin gLt (eV 0) (eC (.int 0))) (aNil)))))
def L_order_of_texts_0 : S := sIf (tV (eBin gNe (eV 3) (eV 4))) (sRet (eCall S_sign_of (aCons (eBin gSub (eM1 gFind (eV 0) (eV 3)) (eM1 gFind (eV 0) (eV 4))) (aNil)))) (sNx)
def S_order_of_texts : List D → R D := runD 5 (
    sSeq (sFor (iZipD (aCons (eV 1) (aCons (eV 2) (aNil)))) (.tp [.nm 3, .nm 4]) (L_order_of_texts_0))
    (sRet (eC (.int 0))))
def U_order (c_order c_order_of_picks c_order_of_rows : List D → R D) : List D → R D := runD 7 (
    sSeq (sSet 4 (eCall (S_measured 80) (aCons (eV 0) (aCons (eV 1) (aCons (eV 2) (aNil))))))
    (sSeq (sSet 5 (eCall (S_measured 80) (aCons (eV 0) (aCons (eV 1) (aCons (eV 3) (aNil))))))
    (sSeq (sIf (tV (eBin gNe (eV 4) (eV 5))) (sRet (eCall S_sign_of (aCons (eBin gSub (eV 4) (eV 5)) (aNil)))) (sNx))
    (sSeq (sIf (tV (eBin gEq (eBin gIx (eV 1) (eC (.int 0))) (eC (.str (Str.ofString "whole"))))) (sRet (eCall S_sign_of (aCons (eBin gSub (eV 2) (eV 3)) (aNil)))) (sNx))
    (sSeq (sIf (tV (eBin gEq (eBin gIx (eV 1) (eC (.int 0))) (eC (.str (Str.ofString "text"))))) (sRet (eCall S_order_of_texts (aCons (eBin gIx (eV 1) (eC (.int 1))) (aCons (eV 2) (aCons (eV 3) (aNil)))))) (sNx))
    (sSeq (sIf (tV (eBin gEq (eBin gIx (eV 1) (eC (.int 0))) (eC (.str (Str.ofString "row"))))) (sRet (eCall c_order_of_rows (aCons (eV 0) (aCons (eBin gIx (eV 1) (eC (.int 1))) (aCons (eV 2) (aCons (eV 3) (aNil))))))) (sNx))
    (sSeq (sIf (tV (eBin gEq (eBin gIx (eV 1) (eC (.int 0))) (eC (.str (Str.ofString "pick"))))) (sRet (eCall c_order_of_picks (aCons (eV 0) (aCons (eBin gIx (eV 1) (eC (.int 1))) (aCons (eV 2) (aCons (eV 3) (aNil))))))) (sNx))
    (sSeq (sIf (tV (eBin gEq (eBin gIx (eV 1) (eC (.int 0))) (eC (.str (Str.ofString "use"))))) (sRet (eCall c_order (aCons (eV 0) (aCons (eCall S_shape_of (aCons (eV 0) (aCons (eBin gIx (eV 1) (eC (.int 1))) (aNil)))) (aCons (eV 2) (aCons (eV 3) (aNil))))))) (sNx))
    (sSeq (sIf (tOrr (tV (eBin gEq (eBin gIx (eV 1) (eC (.int 0))) (eC (.str (Str.ofString "rising"))))) (tV (eBin gEq (eBin gIx (eV 1) (eC (.int 0))) (eC (.str (Str.ofString "unlike")))))) (sRet (eStk)) (sNx))
    (sSeq (sIf (tV (eBin gEq (eBin gIx (eV 1) (eC (.int 0))) (eC (.str (Str.ofString "alike"))))) (sRet (eCall c_order (aCons (eV 0) (aCons (eBin gIx (eV 1) (eC (.int 1))) (aCons (eBin gIx (eV 2) (eC (.int 0))) (aCons (eBin gIx (eV 3) (eC (.int 0))) (aNil))))))) (sNx))
    (sRet (eCall c_order_of_rows (aCons (eV 0) (aCons (eFz (fLc (iSeq (eV 2)) [6] (.nm 6) (tTrue) (eBin gIx (eV 1) (eC (.int 1))))) (aCons (eV 2) (aCons (eV 3) (aNil)))))))))))))))))
def U_order_of_picks (c_order c_order_of_picks c_order_of_rows : List D → R D) : List D → R D := runD 6 (
    sSeq (sSet 4 (eCall S_place_of (aCons (eV 1) (aCons (eBin gIx (eV 2) (eC (.int 0))) (aNil)))))
    (sSeq (sSet 5 (eCall S_place_of (aCons (eV 1) (aCons (eBin gIx (eV 3) (eC (.int 0))) (aNil)))))
    (sSeq (sIf (tV (eBin gNe (eV 4) (eV 5))) (sRet (eCall S_sign_of (aCons (eBin gSub (eV 4) (eV 5)) (aNil)))) (sNx))
    (sRet (eCall c_order (aCons (eV 0) (aCons (eBin gIx (eBin gIx (eV 1) (eV 4)) (eC (.int 1))) (aCons (eBin gIx (eV 2) (eC (.int 1))) (aCons (eBin gIx (eV 3) (eC (.int 1))) (aNil))))))))))
def L_order_of_rows_0 (c_order c_order_of_picks c_order_of_rows : List D → R D) : S := sSeq (sSet 5 (eCall c_order (aCons (eV 0) (aCons (eBin gIx (eV 1) (eV 4)) (aCons (eBin gIx (eV 2) (eV 4)) (aCons (eBin gIx (eV 3) (eV 4)) (aNil)))))))
    (sIf (tV (eBin gNe (eV 5) (eC (.int 0)))) (sRet (eV 5)) (sNx))
def U_order_of_rows (c_order c_order_of_picks c_order_of_rows : List D → R D) : List D → R D := runD 6 (
    sSeq (sFor (iRange1 (aCons (eFn gMin2 (aCons (eFn gLen (aCons (eV 2) (aNil))) (aCons (eFn gLen (aCons (eV 3) (aNil))) (aNil)))) (aNil))) (.nm 4) (L_order_of_rows_0 c_order c_order_of_picks c_order_of_rows))
    (sRet (eC (.int 0))))
mutual
def S_order : Nat → List D → R D
  | 0 => fun _ => .stk
  | n + 1 => U_order (S_order n) (S_order_of_picks n) (S_order_of_rows n)
def S_order_of_picks : Nat → List D → R D
  | 0 => fun _ => .stk
  | n + 1 => U_order_of_picks (S_order n) (S_order_of_picks n) (S_order_of_rows n)
def S_order_of_rows : Nat → List D → R D
  | 0 => fun _ => .stk
  | n + 1 => U_order_of_rows (S_order n) (S_order_of_picks n) (S_order_of_rows n)
end
def L_compared_0 : S := sIf (tNt (tV (eCall (S_fits 80) (aCons (eV 0) (aCons (eV 1) (aCons (eV 4) (aNil))))))) (sStk) (sNx)
def S_compared : List D → R D := runD 5 (
    sSeq (sFor (iSeq (eFz (fLst (aCons (eV 2) (aCons (eV 3) (aNil)))))) (.nm 4) (L_compared_0))
    (sRet (eCall (S_order 80) (aCons (eV 0) (aCons (eV 1) (aCons (eV 2) (aCons (eV 3) (aNil))))))))
def L_l_table_1 : S := sSeq (sSet 6 (eFz (fLst (aCons (eCall (S_l_copy 80) (aCons (eBin gIx (eV 3) (eC (.int 0))) (aNil))) (aCons (eCall (S_l_copy 80) (aCons (eBin gIx (eV 5) (eC (.int 0))) (aNil))) (aNil))))))
    (sSeq (sSet 7 (eCall S_compared (aCons (eV 0) (aCons (eTup (aCons (eC (.str (Str.ofString "use"))) (aCons (eBin gIx (eBin gIx (eV 0) (eC (.int 0))) (eC (.int 0))) (aNil)))) (aCons (eBin gIx (eV 6) (eC (.int 0))) (aCons (eBin gIx (eV 6) (eC (.int 1))) (aNil)))))))
    (sSeq (sIf (tOrr (tNt (tV (eCall S_l_whole (aCons (eV 7) (aNil))))) (tOrr (tV (eBin gNin (eV 7) (eFz (fLst (aCons (eUn gNeg (eC (.int 1))) (aCons (eC (.int 0)) (aCons (eC (.int 1)) (aNil)))))))) (tV (eBin gNe (eV 6) (eFz (fLst (aCons (eBin gIx (eV 3) (eC (.int 0))) (aCons (eBin gIx (eV 5) (eC (.int 0))) (aNil))))))))) (sRet (eC .non)) (sNx))
    (sApp 4 (eV 7))))
def L_l_table_0 : S := sSeq (sOwn 4 (fLst (aNil)))
    (sSeq (sFor (iSeq (eV 1)) (.nm 5) (L_l_table_1))
    (sFrz 4 (sApp 2 (eV 4))))
def S_l_table : List D → R D := runD 8 (
    sSeq (sOwn 2 (fLst (aNil)))
    (sSeq (sFor (iSeq (eV 1)) (.nm 3) (L_l_table_0))
    (sFrz 2 (sRet (eV 2)))))
def L_law_0 : S := sSet 3 (eCall S_l_put (aCons (eV 3) (aCons (eV 2) (aCons (eV 4) (aNil)))))
def S_law : List D → R D := runD 8 (
    sSeq (sSet 1 (eCall S_l_book (aCons (eV 0) (aNil))))
    (sSeq (sSet 2 (eBin gIx (eBin gIx (eBin gIx (eV 1) (eC (.int 0))) (eC (.int 1))) (eC (.int 1))))
    (sSeq (sSet 3 (eFz (fLc (iRange1 (aCons (eC (.int 2)) (aNil))) [7] (.nm 7) (tTrue) (eCall S_l_leaf (aCons (eBin gIx (eV 2) (eC (.int 0))) (aCons (eV 7) (aNil)))))))
    (sSeq (sFor (iSeq (eSl (eV 0) (oSome (eC (.int 2))) (oSome (eC (.int 63))))) (.nm 4) (L_law_0))
    (sSeq (sSet 5 (eSl (eV 3) (oSome (eUn gNeg (eC (.int 4)))) (oNone)))
    (sSeq (sSet 6 (eCall S_l_table (aCons (eV 1) (aCons (eV 5) (aNil)))))
    (sRet (eAn (eBin gNotN (eV 6) (eC .non)) (eCall S_l_in_order (aCons (eV 6) (aCons (eV 5) (aNil))))))))))))
/-! they keep it -/
section
variable {P : Program} {w : World} {K : PySem.W.Frag} {mg : Str → Option Value} {base : Heap} {ct : String → Addr}
set_option maxHeartbeats 4000000 in
theorem ok_l_cell_at {a : Addr} {fd : FuncData} (F : L2.Fun K "_law_cell_at" "_law_cell_at" s_l_cell_at a fd) (Z_len : mg "len" = none) :
    FnOk P w K mg base (L2.CX P w) 1 a fd P_l_cell_at (spD K ct 2 S_l_cell_at) := by
  refine fn_ok (N := N_l_cell_at) F sc_l_cell_at (by decide) (fun cdv A outer s H G E hr => ?_)
  have nd := sc_l_cell_at.nd
  exact ss_cons (ss_if (st_cmp o_lt (se_var 1) (se_callB (b_len) rfl Z_len (by decide +kernel) (sa_cons (se_var 0) (sa_nil)))) (ss_one (ss_ret (se_ix (se_var 0) (se_var 1)))) (ss_nil))
    (ss_one (ss_ret (se_int)))
set_option maxHeartbeats 4000000 in
theorem ok_l_name {a : Addr} {fd : FuncData} (F : L2.Fun K "_law_name" "_law_name" s_l_name a fd) (Z_range : mg "range" = none) :
    FnOk P w K mg base (L2.CX P w) 1 a fd P_l_name (spD K ct 2 S_l_name) := by
  refine fn_ok (N := N_l_name) F sc_l_name (by decide) (fun cdv A outer s H G E hr => ?_)
  have nd := sc_l_name.nd
  exact ss_cons (ss_set 2 (se_str) nd)
    (ss_cons (ss_set 3 (se_bin o_add (se_int) (se_bin o_mod (se_var 0) (se_int))) nd)
    (ss_cons (ss_set 4 (se_bin o_mod (se_bin o_div (se_var 0) (se_int)) (se_var 3)) nd)
    (ss_cons (ss_set 5 (se_str) nd)
    (ss_cons (ss_for (passes_of rfl) rfl (si_range1 rfl Z_range (sa_cons (se_var 3) (sa_nil))) (sg_name 6 nd) (ss_cons (ss_set 7 (se_bin o_add (se_bin o_div (se_var 0) (se_bin o_mul (se_int) (se_bin o_add (se_var 6) (se_int)))) (se_bin o_mul (se_var 6) (se_var 6))) nd)
    (ss_cons (ss_if (st_cmp (o_eq (hu_big hr)) (se_var 6) (se_var 4)) (ss_one (ss_set 7 (se_bin o_add (se_var 7) (se_var 1)) nd)) (ss_nil))
    (ss_one (ss_set 5 (se_bin o_add (se_var 5) (se_ix (se_var 2) (se_bin o_mod (se_var 7) (se_int)))) nd)))))
    (ss_one (ss_ret (se_var 5)))))))
set_option maxHeartbeats 4000000 in
theorem ok_l_book {a : Addr} {fd : FuncData} (F : L2.Fun K "_law_book" "_law_book" s_l_book a fd) {a_l_cell_at : Addr} {f_l_cell_at : FuncData} (G_l_cell_at : FnOk P w K mg base (L2.CX P w) 1 a_l_cell_at f_l_cell_at P_l_cell_at (spD K ct 2 S_l_cell_at)) (M_l_cell_at : mg "_law_cell_at" = some (.ref a_l_cell_at)) (K_l_cell_at : PySem.W.keepIn K (.ref a_l_cell_at) = true) (B_l_cell_at : Binds K f_l_cell_at P_l_cell_at []) {a_l_name : Addr} {f_l_name : FuncData} (G_l_name : FnOk P w K mg base (L2.CX P w) 1 a_l_name f_l_name P_l_name (spD K ct 2 S_l_name)) (M_l_name : mg "_law_name" = some (.ref a_l_name)) (K_l_name : PySem.W.keepIn K (.ref a_l_name) = true) (B_l_name : Binds K f_l_name P_l_name []) (Z_range : mg "range" = none) :
    FnOk P w K mg base (L2.CX P w) 2 a fd P_l_book (spD K ct 1 S_l_book) := by
  refine fn_ok (N := N_l_book) F sc_l_book (by decide) (fun cdv A outer s H G E hr => ?_)
  have nd := sc_l_book.nd
  exact ss_cons (ss_set 1 (se_call G_l_cell_at (hr.mono (by decide)) (takes_of rfl rfl rfl rfl) rfl M_l_cell_at K_l_cell_at B_l_cell_at (sa_cons (se_var 0) (sa_cons (se_int) (sa_nil))) (lenA_cons (lenA_cons (lenA_nil)))) nd)
    (ss_cons (ss_set 2 (se_call G_l_name (hr.mono (by decide)) (takes_of rfl rfl rfl rfl) rfl M_l_name K_l_name B_l_name (sa_cons (se_bin o_div (se_var 1) (se_int)) (sa_cons (se_int) (sa_nil))) (lenA_cons (lenA_cons (lenA_nil)))) nd)
    (ss_cons (ss_set 3 (se_bin o_sub (se_bin o_mod (se_call G_l_cell_at (hr.mono (by decide)) (takes_of rfl rfl rfl rfl) rfl M_l_cell_at K_l_cell_at B_l_cell_at (sa_cons (se_var 0) (sa_cons (se_int) (sa_nil))) (lenA_cons (lenA_cons (lenA_nil)))) (se_bin o_pow (se_int) (se_int))) (se_bin o_mul (se_int) (se_bin o_pow (se_int) (se_int)))) nd)
    (ss_cons (ss_set 4 (se_tup (sa_cons (se_str) (sa_cons (se_var 3) (sa_cons (se_bin o_add (se_var 3) (se_ix (SF.se (sf_lst (sa_cons (se_int) (sa_cons (se_int) (sa_cons (se_int) (sa_cons (se_int) (sa_nil))))))) (se_bin o_mod (se_var 1) (se_int)))) (sa_nil))))) nd)
    (ss_cons (ss_set 5 (se_tup (sa_cons (se_str) (sa_cons (se_tup (sa_cons (se_tup (sa_cons (se_str) (sa_cons (se_var 2) (sa_nil)))) (sa_cons (se_tup (sa_cons (se_str) (sa_cons (se_var 2) (sa_nil)))) (sa_nil)))) (sa_nil)))) nd)
    (ss_cons (ss_setLc 6 [("_law_k", 7)] rfl nd rfl rfl (sw_true rfl rfl rfl (by decide +kernel)) (si_range1 rfl Z_range (sa_cons (se_int) (sa_nil))) (blkOk_by (by change blkC N_l_book (defScope s_l_book) _ _ = true; decide +kernel)) (by decide) (fun _ _ _ _ _ => sg_name 7 nd) (fun _ _ _ _ _ => sts_nil) (fun _ _ _ _ _ => se_call G_l_name (hr.mono (by decide)) takes0 rfl M_l_name K_l_name B_l_name (sa_cons (se_bin o_div (se_call G_l_cell_at (hr.mono (by decide)) takes0 rfl M_l_cell_at K_l_cell_at B_l_cell_at (sa_cons (se_var 0) (sa_cons (se_int) (sa_nil))) (lenA_cons (lenA_cons (lenA_nil)))) (se_int)) (sa_cons (se_var 7) (sa_nil))) (lenA_cons (lenA_cons (lenA_nil)))))
    (ss_one (ss_ret (SF.se (sf_lst (sa_cons (se_tup (sa_cons (se_var 2) (sa_cons (se_tup (sa_cons (se_str) (sa_cons (se_tup (sa_cons (se_tup (sa_cons (se_ix (se_var 6) (se_int)) (sa_cons (se_var 4) (sa_nil)))) (sa_cons (se_tup (sa_cons (se_ix (se_var 6) (se_int)) (sa_cons (se_var 5) (sa_nil)))) (sa_cons (se_tup (sa_cons (se_ix (se_var 6) (se_int)) (sa_cons (se_tup (sa_cons (se_str) (sa_cons (se_tup (sa_cons (se_str) (sa_cons (se_var 2) (sa_nil)))) (sa_nil)))) (sa_nil)))) (sa_nil))))) (sa_nil)))) (sa_nil)))) (sa_nil)))))))))))
set_option maxHeartbeats 4000000 in
theorem ok_l_in_order {a : Addr} {fd : FuncData} (F : L2.Fun K "_law_in_order" "_law_in_order" s_l_in_order a fd) (Z_len : mg "len" = none) (Z_range : mg "range" = none) :
    FnOk P w K mg base (L2.CX P w) 1 a fd P_l_in_order (spD K ct 2 S_l_in_order) := by
  refine fn_ok (N := N_l_in_order) F sc_l_in_order (by decide) (fun cdv A outer s H G E hr => ?_)
  have nd := sc_l_in_order.nd
  exact ss_cons (ss_for (passes_of rfl) rfl (si_range1 rfl Z_range (sa_cons (se_callB (b_len) rfl Z_len (by decide +kernel) (sa_cons (se_var 1) (sa_nil))) (sa_nil))) (sg_name 2 nd) (ss_one (ss_for (passes_of rfl) rfl (si_range1 rfl Z_range (sa_cons (se_callB (b_len) rfl Z_len (by decide +kernel) (sa_cons (se_var 1) (sa_nil))) (sa_nil))) (sg_name 3 nd) (ss_cons (ss_if (PW.pt (sw_or (st_cmp (o_ne (hu_big hr)) (se_cmp (o_eq (hu_big hr)) (se_ix (se_ix (se_var 0) (se_var 2)) (se_var 3)) (se_int)) (se_cmp (o_eq (hu_big hr)) (se_ix (se_ix (se_var 1) (se_var 2)) (se_int)) (se_ix (se_ix (se_var 1) (se_var 3)) (se_int)))) (sw_or1 (st_cmp (o_ne (hu_big hr)) (se_ix (se_ix (se_var 0) (se_var 2)) (se_var 3)) (se_bin o_sub (se_int) (se_ix (se_ix (se_var 0) (se_var 3)) (se_var 2))))))) (ss_one (ss_ret (se_bl))) (ss_nil))
    (ss_cons (ss_if (PW.pt (sw_and (st_cmp o_lt (se_ix (se_ix (se_var 1) (se_var 2)) (se_int)) (se_ix (se_ix (se_var 1) (se_var 3)) (se_int))) (sw_and1 (st_cmp (o_ne (hu_big hr)) (se_ix (se_ix (se_var 0) (se_var 2)) (se_var 3)) (se_un o_neg (se_int)))))) (ss_one (ss_ret (se_bl))) (ss_nil))
    (ss_one (ss_for (passes_of rfl) rfl (si_range1 rfl Z_range (sa_cons (se_callB (b_len) rfl Z_len (by decide +kernel) (sa_cons (se_var 1) (sa_nil))) (sa_nil))) (sg_name 4 nd) (ss_one (ss_if (PW.pt (sw_and (st_cmp o_le (se_ix (se_ix (se_var 0) (se_var 2)) (se_var 3)) (se_int)) (sw_and (st_cmp o_le (se_ix (se_ix (se_var 0) (se_var 3)) (se_var 4)) (se_int)) (sw_and1 (st_cmp o_gt (se_ix (se_ix (se_var 0) (se_var 2)) (se_var 4)) (se_int)))))) (ss_one (ss_ret (se_bl))) (ss_nil))))))))))
    (ss_one (ss_ret (se_bl)))
set_option maxHeartbeats 4000000 in
theorem ok_l_leaf {a : Addr} {fd : FuncData} (F : L2.Fun K "_law_leaf" "_law_leaf" s_l_leaf a fd) :
    FnOk P w K mg base (L2.CX P w) 1 a fd P_l_leaf (spD K ct 2 S_l_leaf) := by
  refine fn_ok (N := N_l_leaf) F sc_l_leaf (by decide) (fun cdv A outer s H G E hr => ?_)
  have nd := sc_l_leaf.nd
  exact ss_cons (ss_set 2 (se_bin o_mod (se_var 1) (se_bin o_add (se_bin o_sub (se_ix (se_ix (se_var 0) (se_int)) (se_int)) (se_ix (se_ix (se_var 0) (se_int)) (se_int))) (se_int))) nd)
    (ss_one (ss_ret (se_tup (sa_cons (se_tup (sa_cons (se_ix (se_var 0) (se_int)) (sa_cons (se_bin o_add (se_ix (se_ix (se_var 0) (se_int)) (se_int)) (se_var 2)) (sa_nil)))) (sa_cons (se_bin o_add (se_int) (se_bits (se_var 2))) (sa_cons (se_int) (sa_nil)))))))
set_option maxHeartbeats 4000000 in
theorem ok_l_put {a : Addr} {fd : FuncData} (F : L2.Fun K "_law_put" "_law_put" s_l_put a fd) {a_l_leaf : Addr} {f_l_leaf : FuncData} (G_l_leaf : FnOk P w K mg base (L2.CX P w) 1 a_l_leaf f_l_leaf P_l_leaf (spD K ct 2 S_l_leaf)) (M_l_leaf : mg "_law_leaf" = some (.ref a_l_leaf)) (K_l_leaf : PySem.W.keepIn K (.ref a_l_leaf) = true) (B_l_leaf : Binds K f_l_leaf P_l_leaf []) (Z_len : mg "len" = none) (Z_max : mg "max" = none) (Z_sum : mg "sum" = none) (Z_tuple : mg "tuple" = none) :
    FnOk P w K mg base (L2.CX P w) 2 a fd P_l_put (spD K ct 3 S_l_put) := by
  refine fn_ok (N := N_l_put) F sc_l_put (by decide) (fun cdv A outer s H G E hr => ?_)
  have nd := sc_l_put.nd
  exact ss_cons (ss_set 3 (se_bin o_mod (se_var 2) (se_int)) nd)
    (ss_cons (ss_set 4 (se_ix (SF.se (sf_lst (sa_cons (se_int) (sa_cons (se_int) (sa_cons (se_int) (sa_cons (se_bin o_mod (se_bin o_div (se_var 2) (se_int)) (se_int)) (sa_cons (se_int) (sa_nil)))))))) (se_var 3)) nd)
    (ss_cons (ss_set 5 (SF.se (sf_lst (sa_nil))) nd)
    (ss_cons (ss_if (st_chain o_lt o_le (se_int) (se_var 4) (se_callB (b_len) rfl Z_len (by decide +kernel) (sa_cons (se_var 0) (sa_nil)))) (ss_one (ss_set 5 (se_sl (se_var 0) (so_some (se_bin o_sub (se_callB (b_len) rfl Z_len (by decide +kernel) (sa_cons (se_var 0) (sa_nil))) (se_var 4))) (so_none)) nd)) (ss_nil))
    (ss_cons (ss_set 6 (se_bin o_add (se_int) (se_callB (b_maxL rfl) rfl Z_max (by decide +kernel) (sa_cons (se_bin o_add (SF.se (sf_lst (sa_cons (se_int) (sa_nil)))) (SF.se (sf_lc [("_law_tree", 10)] rfl nd (si_seq (se_var 5)) (blkOk_by (by change blkC N_l_put (defScope s_l_put) _ _ = true; decide +kernel)) (by decide) (fun _ _ _ _ _ => sg_name 10 nd) (fun _ _ _ _ _ => sts_nil) (fun _ _ _ _ _ => se_ix (se_var 10) (se_int))))) (sa_nil)))) nd)
    (ss_cons (ss_if (PW.pt (sw_or (st_cmp o_gt (se_var 6) (se_int)) (sw_or1 (PW.pt (sw_and (st_cmp (o_eq (hu_big hr)) (se_var 5) (SF.se (sf_lst (sa_nil)))) (sw_and1 (st_cmp (o_ne (hu_big hr)) (se_var 3) (se_int)))))))) (ss_one (ss_ret (se_bin o_add (se_var 0) (SF.se (sf_lst (sa_cons (se_call G_l_leaf (hr.mono (by decide)) (takes_of rfl rfl rfl rfl) rfl M_l_leaf K_l_leaf B_l_leaf (sa_cons (se_ix (se_var 1) (se_int)) (sa_cons (se_bin o_div (se_var 2) (se_int)) (sa_nil))) (lenA_cons (lenA_cons (lenA_nil)))) (sa_nil))))))) (ss_nil))
    (ss_cons (ss_setLc 7 [("_law_tree", 10)] rfl nd rfl rfl (sw_true rfl rfl rfl (by decide +kernel)) (si_seq (se_var 5)) (blkOk_by (by change blkC N_l_put (defScope s_l_put) _ _ = true; decide +kernel)) (by decide) (fun _ _ _ _ _ => sg_name 10 nd) (fun _ _ _ _ _ => sts_nil) (fun _ _ _ _ _ => se_ix (se_var 10) (se_int)))
    (ss_cons (ss_set 8 (se_bin o_add (se_int) (se_callB (b_sum rfl) rfl Z_sum (by decide +kernel) (sa_cons (SF.se (sf_lc [("_law_tree", 10)] rfl nd (si_seq (se_var 5)) (blkOk_by (by change blkC N_l_put (defScope s_l_put) _ _ = true; decide +kernel)) (by decide) (fun _ _ _ _ _ => sg_name 10 nd) (fun _ _ _ _ _ => sts_nil) (fun _ _ _ _ _ => se_ix (se_var 10) (se_int)))) (sa_nil)))) nd)
    (ss_cons (ss_set 9 (se_sl (se_var 0) (so_none) (so_some (se_bin o_sub (se_callB (b_len) rfl Z_len (by decide +kernel) (sa_cons (se_var 0) (sa_nil))) (se_callB (b_len) rfl Z_len (by decide +kernel) (sa_cons (se_var 5) (sa_nil)))))) nd)
    (ss_cons (ss_if (st_cmp (o_eq (hu_big hr)) (se_var 3) (se_int)) (ss_one (ss_ret (se_bin o_add (se_var 9) (SF.se (sf_lst (sa_cons (se_tup (sa_cons (se_tup (sa_cons (se_ix (se_ix (se_var 1) (se_int)) (se_int)) (sa_cons (se_var 7) (sa_nil)))) (sa_cons (se_bin o_add (se_var 8) (se_callB (b_len) rfl Z_len (by decide +kernel) (sa_cons (se_var 5) (sa_nil)))) (sa_cons (se_var 6) (sa_nil))))) (sa_nil))))))) (ss_nil))
    (ss_one (ss_ret (se_bin o_add (se_var 9) (SF.se (sf_lst (sa_cons (se_tup (sa_cons (se_tup (sa_cons (se_ix (se_ix (se_var 1) (se_int)) (se_int)) (sa_cons (se_callT (b_tuple) rfl Z_tuple (by decide +kernel) (sa_cons (se_var 7) (sa_nil))) (sa_nil)))) (sa_cons (se_var 8) (sa_cons (se_var 6) (sa_nil))))) (sa_nil))))))))))))))))
set_option maxHeartbeats 4000000 in
theorem ok_l_copy {a : Addr} {fd : FuncData} (F : L2.Fun K "_law_copy" "_law_copy" s_l_copy a fd) {k : Nat} (hk : 0 ≤ k) {c_l_copy : List D → R D} {a_l_copy : Addr} {f_l_copy : FuncData} (G_l_copy : FnOk P w K mg base (L2.CX P w) k a_l_copy f_l_copy P_l_copy (spD K ct 1 c_l_copy)) (M_l_copy : mg "_law_copy" = some (.ref a_l_copy)) (K_l_copy : PySem.W.keepIn K (.ref a_l_copy) = true) (B_l_copy : Binds K f_l_copy P_l_copy []) (Z_isinstance : mg "isinstance" = none) (Z_list : mg "list" = none) (Z_tuple : mg "tuple" = none) :
    FnOk P w K mg base (L2.CX P w) (k + 1) a fd P_l_copy (spD K ct 1 (U_l_copy c_l_copy)) := by
  refine fn_ok (N := N_l_copy) F sc_l_copy (by decide) (fun cdv A outer s H G E hr => ?_)
  have nd := sc_l_copy.nd
  exact ss_cons (ss_if (st_val (se_isi (n := "list") (se_var 0) rfl Z_isinstance rfl Z_list (by decide +kernel))) (ss_one (ss_ret (SF.se (sf_lc [("_law_thing", 1)] rfl nd (si_seq (se_var 0)) (blkOk_by (by change blkC N_l_copy (defScope s_l_copy) _ _ = true; decide +kernel)) (by decide) (fun _ _ _ _ _ => sg_name 1 nd) (fun _ _ _ _ _ => sts_nil) (fun _ _ _ _ _ => se_call G_l_copy (hr) takes0 rfl M_l_copy K_l_copy B_l_copy (sa_cons (se_var 1) (sa_nil)) (lenA_cons (lenA_nil))))))) (ss_nil))
    (ss_cons (ss_if (st_val (se_isi (n := "tuple") (se_var 0) rfl Z_isinstance rfl Z_tuple (by decide +kernel))) (ss_one (ss_ret (se_callT (b_tuple) rfl Z_tuple (by decide +kernel) (sa_cons (SF.se (sf_lc [("_law_thing", 1)] rfl nd (si_seq (se_var 0)) (blkOk_by (by change blkC N_l_copy (defScope s_l_copy) _ _ = true; decide +kernel)) (by decide) (fun _ _ _ _ _ => sg_name 1 nd) (fun _ _ _ _ _ => sts_nil) (fun _ _ _ _ _ => se_call G_l_copy (hr) takes0 rfl M_l_copy K_l_copy B_l_copy (sa_cons (se_var 1) (sa_nil)) (lenA_cons (lenA_nil))))) (sa_nil))))) (ss_nil))
    (ss_one (ss_ret (se_var 0))))
set_option maxHeartbeats 4000000 in
theorem ok_l_whole {a : Addr} {fd : FuncData} (F : L2.Fun K "_law_whole" "_law_whole" s_l_whole a fd) (Z_bool : mg "bool" = none) (Z_int : mg "int" = none) (Z_isinstance : mg "isinstance" = none) :
    FnOk P w K mg base (L2.CX P w) 1 a fd P_l_whole (spD K ct 1 S_l_whole) := by
  refine fn_ok (N := N_l_whole) F sc_l_whole (by decide) (fun cdv A outer s H G E hr => ?_)
  have nd := sc_l_whole.nd
  exact ss_one (ss_ret (se_and (se_isi (n := "int") (se_var 0) rfl Z_isinstance rfl Z_int (by decide +kernel)) (se_one (se_nt (se_isi (n := "bool") (se_var 0) rfl Z_isinstance rfl Z_bool (by decide +kernel))))))
set_option maxHeartbeats 4000000 in
theorem ok_place_of {a : Addr} {fd : FuncData} (F : L2.Fun K "place_of" "place_of" s_place_of a fd) (Z_enumerate : mg "enumerate" = none) :
    FnOk P w K mg base (L2.CX P w) 1 a fd P_place_of (spD K ct 2 S_place_of) := by
  refine fn_ok (N := N_place_of) F sc_place_of (by decide) (fun cdv A outer s H G E hr => ?_)
  have nd := sc_place_of.nd
  exact ss_cons (ss_for (passes_of rfl) rfl (si_enumE rfl Z_enumerate (sa_cons (se_var 0) (sa_nil))) (sg_tup rfl (sgs_cons (sg_name 2 nd) (sgs_cons (sg_name 3 nd) (sgs_nil)))) (ss_one (ss_if (st_cmp (o_eq (hu_big hr)) (se_ix (se_var 3) (se_int)) (se_var 1)) (ss_one (ss_ret (se_var 2))) (ss_nil))))
    (ss_one (ss_ret (se_un o_neg (se_int))))
set_option maxHeartbeats 4000000 in
theorem ok_shape_of {a : Addr} {fd : FuncData} (F : L2.Fun K "shape_of" "shape_of" s_shape_of a fd) (X_NoName : XC K mg ct "NoName") :
    FnOk P w K mg base (L2.CX P w) 1 a fd P_shape_of (spD K ct 2 S_shape_of) := by
  refine fn_ok (N := N_shape_of) F sc_shape_of (by decide) (fun cdv A outer s H G E hr => ?_)
  have nd := sc_shape_of.nd
  exact ss_cons (ss_for (passes_of rfl) rfl (si_seq (se_var 0)) (sg_tup rfl (sgs_cons (sg_name 2 nd) (sgs_cons (sg_name 3 nd) (sgs_nil)))) (ss_one (ss_if (st_cmp (o_eq (hu_big hr)) (se_var 2) (se_var 1)) (ss_one (ss_ret (se_var 3))) (ss_nil))))
    (ss_one (ss_raise (cn := "NoName") rfl (takes_of rfl rfl rfl rfl) X_NoName rfl))
set_option maxHeartbeats 4000000 in
theorem ok_fits {a : Addr} {fd : FuncData} (F : L2.Fun K "fits" "fits" s_fits a fd) {k : Nat} (hk : 1 ≤ k) {c_fits c_fits_branch c_fits_list c_fits_parts : List D → R D} {a_fits : Addr} {f_fits : FuncData} (G_fits : FnOk P w K mg base (L2.CX P w) k a_fits f_fits P_fits (spD K ct 3 c_fits)) (M_fits : mg "fits" = some (.ref a_fits)) (K_fits : PySem.W.keepIn K (.ref a_fits) = true) (B_fits : Binds K f_fits P_fits []) {a_fits_branch : Addr} {f_fits_branch : FuncData} (G_fits_branch : FnOk P w K mg base (L2.CX P w) k a_fits_branch f_fits_branch P_fits_branch (spD K ct 3 c_fits_branch)) (M_fits_branch : mg "fits_branch" = some (.ref a_fits_branch)) (K_fits_branch : PySem.W.keepIn K (.ref a_fits_branch) = true) (B_fits_branch : Binds K f_fits_branch P_fits_branch []) {a_fits_list : Addr} {f_fits_list : FuncData} (G_fits_list : FnOk P w K mg base (L2.CX P w) k a_fits_list f_fits_list P_fits_list (spD K ct 3 c_fits_list)) (M_fits_list : mg "fits_list" = some (.ref a_fits_list)) (K_fits_list : PySem.W.keepIn K (.ref a_fits_list) = true) (B_fits_list : Binds K f_fits_list P_fits_list []) {a_fits_parts : Addr} {f_fits_parts : FuncData} (G_fits_parts : FnOk P w K mg base (L2.CX P w) k a_fits_parts f_fits_parts P_fits_parts (spD K ct 3 c_fits_parts)) (M_fits_parts : mg "fits_parts" = some (.ref a_fits_parts)) (K_fits_parts : PySem.W.keepIn K (.ref a_fits_parts) = true) (B_fits_parts : Binds K f_fits_parts P_fits_parts []) {a_shape_of : Addr} {f_shape_of : FuncData} (G_shape_of : FnOk P w K mg base (L2.CX P w) 1 a_shape_of f_shape_of P_shape_of (spD K ct 2 S_shape_of)) (M_shape_of : mg "shape_of" = some (.ref a_shape_of)) (K_shape_of : PySem.W.keepIn K (.ref a_shape_of) = true) (B_shape_of : Binds K f_shape_of P_shape_of []) (Z_all : mg "all" = none) (Z_bool : mg "bool" = none) (Z_int : mg "int" = none) (Z_isinstance : mg "isinstance" = none) (Z_list : mg "list" = none) (Z_str : mg "str" = none) (Z_tuple : mg "tuple" = none) :
    FnOk P w K mg base (L2.CX P w) (k + 1) a fd P_fits (spD K ct 3 (U_fits c_fits c_fits_branch c_fits_list c_fits_parts)) := by
  refine fn_ok (N := N_fits) F sc_fits (by decide) (fun cdv A outer s H G E hr => ?_)
  have nd := sc_fits.nd
  exact ss_cons (ss_if (st_cmp (o_eq (hu_big hr)) (se_ix (se_var 1) (se_int)) (se_str)) (ss_one (ss_ret (se_and (se_isi (n := "int") (se_var 2) rfl Z_isinstance rfl Z_int (by decide +kernel)) (se_and (se_nt (se_isi (n := "bool") (se_var 2) rfl Z_isinstance rfl Z_bool (by decide +kernel))) (se_one (se_chain o_le o_le (se_ix (se_var 1) (se_int)) (se_var 2) (se_ix (se_var 1) (se_int)))))))) (ss_nil))
    (ss_cons (ss_if (st_cmp (o_eq (hu_big hr)) (se_ix (se_var 1) (se_int)) (se_str)) (ss_one (ss_ret (se_and (se_isi (n := "str") (se_var 2) rfl Z_isinstance rfl Z_str (by decide +kernel)) (se_one (se_callB (b_all rfl) rfl Z_all (by decide +kernel) (sa_cons (SF.se (sf_lc [("sign", 3)] rfl nd (si_seq (se_var 2)) (blkOk_by (by change blkC N_fits (defScope s_fits) _ _ = true; decide +kernel)) (by decide) (fun _ _ _ _ _ => sg_name 3 nd) (fun _ _ _ _ _ => sts_nil) (fun _ _ _ _ _ => se_cmp o_in (se_var 3) (se_ix (se_var 1) (se_int))))) (sa_nil))))))) (ss_nil))
    (ss_cons (ss_if (st_cmp (o_eq (hu_big hr)) (se_ix (se_var 1) (se_int)) (se_str)) (ss_one (ss_ret (se_and (se_isi (n := "tuple") (se_var 2) rfl Z_isinstance rfl Z_tuple (by decide +kernel)) (se_one (se_call G_fits_parts (hr) (takes_of rfl rfl rfl rfl) rfl M_fits_parts K_fits_parts B_fits_parts (sa_cons (se_var 0) (sa_cons (se_ix (se_var 1) (se_int)) (sa_cons (se_var 2) (sa_nil)))) (lenA_cons (lenA_cons (lenA_cons (lenA_nil))))))))) (ss_nil))
    (ss_cons (ss_if (st_cmp (o_eq (hu_big hr)) (se_ix (se_var 1) (se_int)) (se_str)) (ss_one (ss_ret (se_and (se_isi (n := "tuple") (se_var 2) rfl Z_isinstance rfl Z_tuple (by decide +kernel)) (se_one (se_call G_fits_branch (hr) (takes_of rfl rfl rfl rfl) rfl M_fits_branch K_fits_branch B_fits_branch (sa_cons (se_var 0) (sa_cons (se_ix (se_var 1) (se_int)) (sa_cons (se_var 2) (sa_nil)))) (lenA_cons (lenA_cons (lenA_cons (lenA_nil))))))))) (ss_nil))
    (ss_cons (ss_if (st_cmp (o_eq (hu_big hr)) (se_ix (se_var 1) (se_int)) (se_str)) (ss_one (ss_ret (se_call G_fits (hr) (takes_of rfl rfl rfl rfl) rfl M_fits K_fits B_fits (sa_cons (se_var 0) (sa_cons (se_call G_shape_of (hr.mono (Nat.le_trans (by decide) hk)) (takes_of rfl rfl rfl rfl) rfl M_shape_of K_shape_of B_shape_of (sa_cons (se_var 0) (sa_cons (se_ix (se_var 1) (se_int)) (sa_nil))) (lenA_cons (lenA_cons (lenA_nil)))) (sa_cons (se_var 2) (sa_nil)))) (lenA_cons (lenA_cons (lenA_cons (lenA_nil))))))) (ss_nil))
    (ss_one (ss_ret (se_and (se_isi (n := "list") (se_var 2) rfl Z_isinstance rfl Z_list (by decide +kernel)) (se_one (se_call G_fits_list (hr) (takes_of rfl rfl rfl rfl) rfl M_fits_list K_fits_list B_fits_list (sa_cons (se_var 0) (sa_cons (se_var 1) (sa_cons (se_var 2) (sa_nil)))) (lenA_cons (lenA_cons (lenA_cons (lenA_nil)))))))))))))
set_option maxHeartbeats 4000000 in
theorem ok_fits_branch {a : Addr} {fd : FuncData} (F : L2.Fun K "fits_branch" "fits_branch" s_fits_branch a fd) {k : Nat} (hk : 1 ≤ k) {c_fits c_fits_branch c_fits_list c_fits_parts : List D → R D} {a_fits : Addr} {f_fits : FuncData} (G_fits : FnOk P w K mg base (L2.CX P w) k a_fits f_fits P_fits (spD K ct 3 c_fits)) (M_fits : mg "fits" = some (.ref a_fits)) (K_fits : PySem.W.keepIn K (.ref a_fits) = true) (B_fits : Binds K f_fits P_fits []) {a_place_of : Addr} {f_place_of : FuncData} (G_place_of : FnOk P w K mg base (L2.CX P w) 1 a_place_of f_place_of P_place_of (spD K ct 2 S_place_of)) (M_place_of : mg "place_of" = some (.ref a_place_of)) (K_place_of : PySem.W.keepIn K (.ref a_place_of) = true) (B_place_of : Binds K f_place_of P_place_of []) (Z_isinstance : mg "isinstance" = none) (Z_len : mg "len" = none) (Z_str : mg "str" = none) :
    FnOk P w K mg base (L2.CX P w) (k + 1) a fd P_fits_branch (spD K ct 3 (U_fits_branch c_fits c_fits_branch c_fits_list c_fits_parts)) := by
  refine fn_ok (N := N_fits_branch) F sc_fits_branch (by decide) (fun cdv A outer s H G E hr => ?_)
  have nd := sc_fits_branch.nd
  exact ss_cons (ss_if (PW.pt (sw_or (st_cmp (o_ne (hu_big hr)) (se_callB (b_len) rfl Z_len (by decide +kernel) (sa_cons (se_var 2) (sa_nil))) (se_int)) (sw_or1 (st_not (st_val (se_isi (n := "str") (se_ix (se_var 2) (se_int)) rfl Z_isinstance rfl Z_str (by decide +kernel))))))) (ss_one (ss_ret (se_bl))) (ss_nil))
    (ss_cons (ss_set 3 (se_call G_place_of (hr.mono (Nat.le_trans (by decide) hk)) (takes_of rfl rfl rfl rfl) rfl M_place_of K_place_of B_place_of (sa_cons (se_var 1) (sa_cons (se_ix (se_var 2) (se_int)) (sa_nil))) (lenA_cons (lenA_cons (lenA_nil)))) nd)
    (ss_one (ss_ret (se_and (se_cmp o_ge (se_var 3) (se_int)) (se_one (se_call G_fits (hr) (takes_of rfl rfl rfl rfl) rfl M_fits K_fits B_fits (sa_cons (se_var 0) (sa_cons (se_ix (se_ix (se_var 1) (se_var 3)) (se_int)) (sa_cons (se_ix (se_var 2) (se_int)) (sa_nil)))) (lenA_cons (lenA_cons (lenA_cons (lenA_nil))))))))))
set_option maxHeartbeats 4000000 in
theorem ok_fits_list {a : Addr} {fd : FuncData} (F : L2.Fun K "fits_list" "fits_list" s_fits_list a fd) {k : Nat} (hk : 1 ≤ k) {c_fits c_fits_branch c_fits_list c_fits_parts : List D → R D} {a_fits : Addr} {f_fits : FuncData} (G_fits : FnOk P w K mg base (L2.CX P w) k a_fits f_fits P_fits (spD K ct 3 c_fits)) (M_fits : mg "fits" = some (.ref a_fits)) (K_fits : PySem.W.keepIn K (.ref a_fits) = true) (B_fits : Binds K f_fits P_fits []) :
    FnOk P w K mg base (L2.CX P w) (k + 1) a fd P_fits_list (spD K ct 3 (U_fits_list c_fits c_fits_branch c_fits_list c_fits_parts)) := by
  refine fn_ok (N := N_fits_list) F sc_fits_list (by decide) (fun cdv A outer s H G E hr => ?_)
  have nd := sc_fits_list.nd
  exact ss_cons (ss_for (passes_of rfl) rfl (si_seq (se_var 2)) (sg_name 3 nd) (ss_one (ss_if (st_not (st_val (se_call G_fits (hr) (takes_of rfl rfl rfl rfl) rfl M_fits K_fits B_fits (sa_cons (se_var 0) (sa_cons (se_ix (se_var 1) (se_int)) (sa_cons (se_var 3) (sa_nil)))) (lenA_cons (lenA_cons (lenA_cons (lenA_nil))))))) (ss_one (ss_ret (se_bl))) (ss_nil))))
    (ss_cons (ss_if (st_cmp (o_eq (hu_big hr)) (se_ix (se_var 1) (se_int)) (se_str)) (ss_one (ss_ret (se_never))) (ss_nil))
    (ss_cons (ss_if (st_cmp (o_eq (hu_big hr)) (se_ix (se_var 1) (se_int)) (se_str)) (ss_one (ss_ret (se_never))) (ss_nil))
    (ss_cons (ss_if (st_cmp (o_eq (hu_big hr)) (se_ix (se_var 1) (se_int)) (se_str)) (ss_one (ss_ret (se_never))) (ss_nil))
    (ss_one (ss_ret (se_bl))))))
set_option maxHeartbeats 4000000 in
theorem ok_fits_parts {a : Addr} {fd : FuncData} (F : L2.Fun K "fits_parts" "fits_parts" s_fits_parts a fd) {k : Nat} (hk : 1 ≤ k) {c_fits c_fits_branch c_fits_list c_fits_parts : List D → R D} {a_fits : Addr} {f_fits : FuncData} (G_fits : FnOk P w K mg base (L2.CX P w) k a_fits f_fits P_fits (spD K ct 3 c_fits)) (M_fits : mg "fits" = some (.ref a_fits)) (K_fits : PySem.W.keepIn K (.ref a_fits) = true) (B_fits : Binds K f_fits P_fits []) (Z_len : mg "len" = none) (Z_zip : mg "zip" = none) :
    FnOk P w K mg base (L2.CX P w) (k + 1) a fd P_fits_parts (spD K ct 3 (U_fits_parts c_fits c_fits_branch c_fits_list c_fits_parts)) := by
  refine fn_ok (N := N_fits_parts) F sc_fits_parts (by decide) (fun cdv A outer s H G E hr => ?_)
  have nd := sc_fits_parts.nd
  exact ss_cons (ss_if (st_cmp (o_ne (hu_big hr)) (se_callB (b_len) rfl Z_len (by decide +kernel) (sa_cons (se_var 1) (sa_nil))) (se_callB (b_len) rfl Z_len (by decide +kernel) (sa_cons (se_var 2) (sa_nil)))) (ss_one (ss_ret (se_bl))) (ss_nil))
    (ss_cons (ss_for (passes_of rfl) rfl (si_zip rfl Z_zip (sa_cons (se_var 1) (sa_cons (se_var 2) (sa_nil)))) (sg_tup rfl (sgs_cons (sg_name 3 nd) (sgs_cons (sg_name 4 nd) (sgs_nil)))) (ss_one (ss_if (st_not (st_val (se_call G_fits (hr) (takes_of rfl rfl rfl rfl) rfl M_fits K_fits B_fits (sa_cons (se_var 0) (sa_cons (se_var 3) (sa_cons (se_var 4) (sa_nil)))) (lenA_cons (lenA_cons (lenA_cons (lenA_nil))))))) (ss_one (ss_ret (se_bl))) (ss_nil))))
    (ss_one (ss_ret (se_bl))))
set_option maxHeartbeats 4000000 in
theorem ok_measured {a : Addr} {fd : FuncData} (F : L2.Fun K "measured" "measured" s_measured a fd) {k : Nat} (hk : 1 ≤ k) {c_measured : List D → R D} {a_measured : Addr} {f_measured : FuncData} (G_measured : FnOk P w K mg base (L2.CX P w) k a_measured f_measured P_measured (spD K ct 3 c_measured)) (M_measured : mg "measured" = some (.ref a_measured)) (K_measured : PySem.W.keepIn K (.ref a_measured) = true) (B_measured : Binds K f_measured P_measured []) {a_place_of : Addr} {f_place_of : FuncData} (G_place_of : FnOk P w K mg base (L2.CX P w) 1 a_place_of f_place_of P_place_of (spD K ct 2 S_place_of)) (M_place_of : mg "place_of" = some (.ref a_place_of)) (K_place_of : PySem.W.keepIn K (.ref a_place_of) = true) (B_place_of : Binds K f_place_of P_place_of []) {a_shape_of : Addr} {f_shape_of : FuncData} (G_shape_of : FnOk P w K mg base (L2.CX P w) 1 a_shape_of f_shape_of P_shape_of (spD K ct 2 S_shape_of)) (M_shape_of : mg "shape_of" = some (.ref a_shape_of)) (K_shape_of : PySem.W.keepIn K (.ref a_shape_of) = true) (B_shape_of : Binds K f_shape_of P_shape_of []) (Z_len : mg "len" = none) (Z_sum : mg "sum" = none) (Z_zip : mg "zip" = none) :
    FnOk P w K mg base (L2.CX P w) (k + 1) a fd P_measured (spD K ct 3 (U_measured c_measured)) := by
  refine fn_ok (N := N_measured) F sc_measured (by decide) (fun cdv A outer s H G E hr => ?_)
  have nd := sc_measured.nd
  exact ss_cons (ss_if (st_cmp (o_eq (hu_big hr)) (se_ix (se_var 1) (se_int)) (se_str)) (ss_one (ss_ret (se_bits (se_bin o_sub (se_var 2) (se_ix (se_var 1) (se_int)))))) (ss_nil))
    (ss_cons (ss_if (st_cmp (o_eq (hu_big hr)) (se_ix (se_var 1) (se_int)) (se_str)) (ss_one (ss_ret (se_callB (b_len) rfl Z_len (by decide +kernel) (sa_cons (se_var 2) (sa_nil))))) (ss_nil))
    (ss_cons (ss_if (st_cmp (o_eq (hu_big hr)) (se_ix (se_var 1) (se_int)) (se_str)) (ss_one (ss_ret (se_callB (b_sum rfl) rfl Z_sum (by decide +kernel) (sa_cons (SF.se (sf_lc [("part", 3), ("thing", 4)] rfl nd (si_zip rfl Z_zip (sa_cons (se_ix (se_var 1) (se_int)) (sa_cons (se_var 2) (sa_nil)))) (blkOk_by (by change blkC N_measured (defScope s_measured) _ _ = true; decide +kernel)) (by decide) (fun _ _ _ _ _ => sg_tup rfl (sgs_cons (sg_name 3 nd) (sgs_cons (sg_name 4 nd) (sgs_nil)))) (fun _ _ _ _ _ => sts_nil) (fun _ _ _ _ _ => se_call G_measured (hr) takes0 rfl M_measured K_measured B_measured (sa_cons (se_var 0) (sa_cons (se_var 3) (sa_cons (se_var 4) (sa_nil)))) (lenA_cons (lenA_cons (lenA_cons (lenA_nil))))))) (sa_nil))))) (ss_nil))
    (ss_cons (ss_if (st_cmp (o_eq (hu_big hr)) (se_ix (se_var 1) (se_int)) (se_str)) (ss_one (ss_ret (se_call G_measured (hr) (takes_of rfl rfl rfl rfl) rfl M_measured K_measured B_measured (sa_cons (se_var 0) (sa_cons (se_ix (se_ix (se_ix (se_var 1) (se_int)) (se_call G_place_of (hr.mono (Nat.le_trans (by decide) hk)) (takes_of rfl rfl rfl rfl) rfl M_place_of K_place_of B_place_of (sa_cons (se_ix (se_var 1) (se_int)) (sa_cons (se_ix (se_var 2) (se_int)) (sa_nil))) (lenA_cons (lenA_cons (lenA_nil))))) (se_int)) (sa_cons (se_ix (se_var 2) (se_int)) (sa_nil)))) (lenA_cons (lenA_cons (lenA_cons (lenA_nil))))))) (ss_nil))
    (ss_cons (ss_if (st_cmp (o_eq (hu_big hr)) (se_ix (se_var 1) (se_int)) (se_str)) (ss_one (ss_ret (se_bin o_add (se_int) (se_call G_measured (hr) (takes_of rfl rfl rfl rfl) rfl M_measured K_measured B_measured (sa_cons (se_var 0) (sa_cons (se_call G_shape_of (hr.mono (Nat.le_trans (by decide) hk)) (takes_of rfl rfl rfl rfl) rfl M_shape_of K_shape_of B_shape_of (sa_cons (se_var 0) (sa_cons (se_ix (se_var 1) (se_int)) (sa_nil))) (lenA_cons (lenA_cons (lenA_nil)))) (sa_cons (se_var 2) (sa_nil)))) (lenA_cons (lenA_cons (lenA_cons (lenA_nil)))))))) (ss_nil))
    (ss_one (ss_ret (se_callB (b_sum rfl) rfl Z_sum (by decide +kernel) (sa_cons (SF.se (sf_lc [("thing", 4)] rfl nd (si_seq (se_var 2)) (blkOk_by (by change blkC N_measured (defScope s_measured) _ _ = true; decide +kernel)) (by decide) (fun _ _ _ _ _ => sg_name 4 nd) (fun _ _ _ _ _ => sts_nil) (fun _ _ _ _ _ => se_bin o_add (se_int) (se_call G_measured (hr) takes0 rfl M_measured K_measured B_measured (sa_cons (se_var 0) (sa_cons (se_ix (se_var 1) (se_int)) (sa_cons (se_var 4) (sa_nil)))) (lenA_cons (lenA_cons (lenA_cons (lenA_nil)))))))) (sa_nil)))))))))
set_option maxHeartbeats 4000000 in
theorem ok_sign_of {a : Addr} {fd : FuncData} (F : L2.Fun K "sign_of" "sign_of" s_sign_of a fd) (Z_int : mg "int" = none) :
    FnOk P w K mg base (L2.CX P w) 1 a fd P_sign_of (spD K ct 1 S_sign_of) := by
  refine fn_ok (N := N_sign_of) F sc_sign_of (by decide) (fun cdv A outer s H G E hr => ?_)
  have nd := sc_sign_of.nd
  exact ss_one (ss_ret (se_bin o_sub (se_callT (b_int) rfl Z_int (by decide +kernel) (sa_cons (se_cmp o_gt (se_var 0) (se_int)) (sa_nil))) (se_callT (b_int) rfl Z_int (by decide +kernel) (sa_cons (se_cmp o_lt (se_var 0) (se_int)) (sa_nil)))))
set_option maxHeartbeats 4000000 in
theorem ok_order_of_texts {a : Addr} {fd : FuncData} (F : L2.Fun K "order_of_texts" "order_of_texts" s_order_of_texts a fd) {a_sign_of : Addr} {f_sign_of : FuncData} (G_sign_of : FnOk P w K mg base (L2.CX P w) 1 a_sign_of f_sign_of P_sign_of (spD K ct 1 S_sign_of)) (M_sign_of : mg "sign_of" = some (.ref a_sign_of)) (K_sign_of : PySem.W.keepIn K (.ref a_sign_of) = true) (B_sign_of : Binds K f_sign_of P_sign_of []) (Z_zip : mg "zip" = none) :
    FnOk P w K mg base (L2.CX P w) 2 a fd P_order_of_texts (spD K ct 3 S_order_of_texts) := by
  refine fn_ok (N := N_order_of_texts) F sc_order_of_texts (by decide) (fun cdv A outer s H G E hr => ?_)
  have nd := sc_order_of_texts.nd
  exact ss_cons (ss_for (passes_of rfl) rfl (si_zip rfl Z_zip (sa_cons (se_var 1) (sa_cons (se_var 2) (sa_nil)))) (sg_tup rfl (sgs_cons (sg_name 3 nd) (sgs_cons (sg_name 4 nd) (sgs_nil)))) (ss_one (ss_if (st_cmp (o_ne (hu_big hr)) (se_var 3) (se_var 4)) (ss_one (ss_ret (se_call G_sign_of (hr.mono (by decide)) (takes_of rfl rfl rfl rfl) rfl M_sign_of K_sign_of B_sign_of (sa_cons (se_bin o_sub (se_m1 PySem.F.slot_str_find PySem.F.type_str_find m_find (se_var 0) (se_var 3)) (se_m1 PySem.F.slot_str_find PySem.F.type_str_find m_find (se_var 0) (se_var 4))) (sa_nil)) (lenA_cons (lenA_nil))))) (ss_nil))))
    (ss_one (ss_ret (se_int)))
set_option maxHeartbeats 4000000 in
theorem ok_order {a : Addr} {fd : FuncData} (F : L2.Fun K "order" "order" s_order a fd) {k : Nat} (hk : 81 ≤ k) {c_order c_order_of_picks c_order_of_rows : List D → R D} {a_measured : Addr} {f_measured : FuncData} (G_measured : FnOk P w K mg base (L2.CX P w) 81 a_measured f_measured P_measured (spD K ct 3 (S_measured 80))) (M_measured : mg "measured" = some (.ref a_measured)) (K_measured : PySem.W.keepIn K (.ref a_measured) = true) (B_measured : Binds K f_measured P_measured []) {a_order : Addr} {f_order : FuncData} (G_order : FnOk P w K mg base (L2.CX P w) k a_order f_order P_order (spD K ct 4 c_order)) (M_order : mg "order" = some (.ref a_order)) (K_order : PySem.W.keepIn K (.ref a_order) = true) (B_order : Binds K f_order P_order []) {a_order_of_picks : Addr} {f_order_of_picks : FuncData} (G_order_of_picks : FnOk P w K mg base (L2.CX P w) k a_order_of_picks f_order_of_picks P_order_of_picks (spD K ct 4 c_order_of_picks)) (M_order_of_picks : mg "order_of_picks" = some (.ref a_order_of_picks)) (K_order_of_picks : PySem.W.keepIn K (.ref a_order_of_picks) = true) (B_order_of_picks : Binds K f_order_of_picks P_order_of_picks []) {a_order_of_rows : Addr} {f_order_of_rows : FuncData} (G_order_of_rows : FnOk P w K mg base (L2.CX P w) k a_order_of_rows f_order_of_rows P_order_of_rows (spD K ct 4 c_order_of_rows)) (M_order_of_rows : mg "order_of_rows" = some (.ref a_order_of_rows)) (K_order_of_rows : PySem.W.keepIn K (.ref a_order_of_rows) = true) (B_order_of_rows : Binds K f_order_of_rows P_order_of_rows []) {a_order_of_texts : Addr} {f_order_of_texts : FuncData} (G_order_of_texts : FnOk P w K mg base (L2.CX P w) 2 a_order_of_texts f_order_of_texts P_order_of_texts (spD K ct 3 S_order_of_texts)) (M_order_of_texts : mg "order_of_texts" = some (.ref a_order_of_texts)) (K_order_of_texts : PySem.W.keepIn K (.ref a_order_of_texts) = true) (B_order_of_texts : Binds K f_order_of_texts P_order_of_texts []) {a_shape_of : Addr} {f_shape_of : FuncData} (G_shape_of : FnOk P w K mg base (L2.CX P w) 1 a_shape_of f_shape_of P_shape_of (spD K ct 2 S_shape_of)) (M_shape_of : mg "shape_of" = some (.ref a_shape_of)) (K_shape_of : PySem.W.keepIn K (.ref a_shape_of) = true) (B_shape_of : Binds K f_shape_of P_shape_of []) {a_sign_of : Addr} {f_sign_of : FuncData} (G_sign_of : FnOk P w K mg base (L2.CX P w) 1 a_sign_of f_sign_of P_sign_of (spD K ct 1 S_sign_of)) (M_sign_of : mg "sign_of" = some (.ref a_sign_of)) (K_sign_of : PySem.W.keepIn K (.ref a_sign_of) = true) (B_sign_of : Binds K f_sign_of P_sign_of []) :
    FnOk P w K mg base (L2.CX P w) (k + 1) a fd P_order (spD K ct 4 (U_order c_order c_order_of_picks c_order_of_rows)) := by
  refine fn_ok (N := N_order) F sc_order (by decide) (fun cdv A outer s H G E hr => ?_)
  have nd := sc_order.nd
  exact ss_cons (ss_set 4 (se_call G_measured (hr.mono (Nat.le_trans (by decide) hk)) (takes_of rfl rfl rfl rfl) rfl M_measured K_measured B_measured (sa_cons (se_var 0) (sa_cons (se_var 1) (sa_cons (se_var 2) (sa_nil)))) (lenA_cons (lenA_cons (lenA_cons (lenA_nil))))) nd)
    (ss_cons (ss_set 5 (se_call G_measured (hr.mono (Nat.le_trans (by decide) hk)) (takes_of rfl rfl rfl rfl) rfl M_measured K_measured B_measured (sa_cons (se_var 0) (sa_cons (se_var 1) (sa_cons (se_var 3) (sa_nil)))) (lenA_cons (lenA_cons (lenA_cons (lenA_nil))))) nd)
    (ss_cons (ss_if (st_cmp (o_ne (hu_big hr)) (se_var 4) (se_var 5)) (ss_one (ss_ret (se_call G_sign_of (hr.mono (Nat.le_trans (by decide) hk)) (takes_of rfl rfl rfl rfl) rfl M_sign_of K_sign_of B_sign_of (sa_cons (se_bin o_sub (se_var 4) (se_var 5)) (sa_nil)) (lenA_cons (lenA_nil))))) (ss_nil))
    (ss_cons (ss_if (st_cmp (o_eq (hu_big hr)) (se_ix (se_var 1) (se_int)) (se_str)) (ss_one (ss_ret (se_call G_sign_of (hr.mono (Nat.le_trans (by decide) hk)) (takes_of rfl rfl rfl rfl) rfl M_sign_of K_sign_of B_sign_of (sa_cons (se_bin o_sub (se_var 2) (se_var 3)) (sa_nil)) (lenA_cons (lenA_nil))))) (ss_nil))
    (ss_cons (ss_if (st_cmp (o_eq (hu_big hr)) (se_ix (se_var 1) (se_int)) (se_str)) (ss_one (ss_ret (se_call G_order_of_texts (hr.mono (Nat.le_trans (by decide) hk)) (takes_of rfl rfl rfl rfl) rfl M_order_of_texts K_order_of_texts B_order_of_texts (sa_cons (se_ix (se_var 1) (se_int)) (sa_cons (se_var 2) (sa_cons (se_var 3) (sa_nil)))) (lenA_cons (lenA_cons (lenA_cons (lenA_nil))))))) (ss_nil))
    (ss_cons (ss_if (st_cmp (o_eq (hu_big hr)) (se_ix (se_var 1) (se_int)) (se_str)) (ss_one (ss_ret (se_call G_order_of_rows (hr) (takes_of rfl rfl rfl rfl) rfl M_order_of_rows K_order_of_rows B_order_of_rows (sa_cons (se_var 0) (sa_cons (se_ix (se_var 1) (se_int)) (sa_cons (se_var 2) (sa_cons (se_var 3) (sa_nil))))) (lenA_cons (lenA_cons (lenA_cons (lenA_cons (lenA_nil)))))))) (ss_nil))
    (ss_cons (ss_if (st_cmp (o_eq (hu_big hr)) (se_ix (se_var 1) (se_int)) (se_str)) (ss_one (ss_ret (se_call G_order_of_picks (hr) (takes_of rfl rfl rfl rfl) rfl M_order_of_picks K_order_of_picks B_order_of_picks (sa_cons (se_var 0) (sa_cons (se_ix (se_var 1) (se_int)) (sa_cons (se_var 2) (sa_cons (se_var 3) (sa_nil))))) (lenA_cons (lenA_cons (lenA_cons (lenA_cons (lenA_nil)))))))) (ss_nil))
    (ss_cons (ss_if (st_cmp (o_eq (hu_big hr)) (se_ix (se_var 1) (se_int)) (se_str)) (ss_one (ss_ret (se_call G_order (hr) (takes_of rfl rfl rfl rfl) rfl M_order K_order B_order (sa_cons (se_var 0) (sa_cons (se_call G_shape_of (hr.mono (Nat.le_trans (by decide) hk)) (takes_of rfl rfl rfl rfl) rfl M_shape_of K_shape_of B_shape_of (sa_cons (se_var 0) (sa_cons (se_ix (se_var 1) (se_int)) (sa_nil))) (lenA_cons (lenA_cons (lenA_nil)))) (sa_cons (se_var 2) (sa_cons (se_var 3) (sa_nil))))) (lenA_cons (lenA_cons (lenA_cons (lenA_cons (lenA_nil)))))))) (ss_nil))
    (ss_cons (ss_if (PW.pt (sw_or (st_cmp (o_eq (hu_big hr)) (se_ix (se_var 1) (se_int)) (se_str)) (sw_or1 (st_cmp (o_eq (hu_big hr)) (se_ix (se_var 1) (se_int)) (se_str))))) (ss_one (ss_ret (se_never))) (ss_nil))
    (ss_cons (ss_if (st_cmp (o_eq (hu_big hr)) (se_ix (se_var 1) (se_int)) (se_str)) (ss_one (ss_ret (se_call G_order (hr) (takes_of rfl rfl rfl rfl) rfl M_order K_order B_order (sa_cons (se_var 0) (sa_cons (se_ix (se_var 1) (se_int)) (sa_cons (se_ix (se_var 2) (se_int)) (sa_cons (se_ix (se_var 3) (se_int)) (sa_nil))))) (lenA_cons (lenA_cons (lenA_cons (lenA_cons (lenA_nil)))))))) (ss_nil))
    (ss_one (ss_ret (se_call G_order_of_rows (hr) (takes_of rfl rfl rfl rfl) rfl M_order_of_rows K_order_of_rows B_order_of_rows (sa_cons (se_var 0) (sa_cons (SF.se (sf_lc [("thing", 6)] rfl nd (si_seq (se_var 2)) (blkOk_by (by change blkC N_order (defScope s_order) _ _ = true; decide +kernel)) (by decide) (fun _ _ _ _ _ => sg_name 6 nd) (fun _ _ _ _ _ => sts_nil) (fun _ _ _ _ _ => se_ix (se_var 1) (se_int)))) (sa_cons (se_var 2) (sa_cons (se_var 3) (sa_nil))))) (lenA_cons (lenA_cons (lenA_cons (lenA_cons (lenA_nil)))))))))))))))))
set_option maxHeartbeats 4000000 in
theorem ok_order_of_picks {a : Addr} {fd : FuncData} (F : L2.Fun K "order_of_picks" "order_of_picks" s_order_of_picks a fd) {k : Nat} (hk : 81 ≤ k) {c_order c_order_of_picks c_order_of_rows : List D → R D} {a_order : Addr} {f_order : FuncData} (G_order : FnOk P w K mg base (L2.CX P w) k a_order f_order P_order (spD K ct 4 c_order)) (M_order : mg "order" = some (.ref a_order)) (K_order : PySem.W.keepIn K (.ref a_order) = true) (B_order : Binds K f_order P_order []) {a_place_of : Addr} {f_place_of : FuncData} (G_place_of : FnOk P w K mg base (L2.CX P w) 1 a_place_of f_place_of P_place_of (spD K ct 2 S_place_of)) (M_place_of : mg "place_of" = some (.ref a_place_of)) (K_place_of : PySem.W.keepIn K (.ref a_place_of) = true) (B_place_of : Binds K f_place_of P_place_of []) {a_sign_of : Addr} {f_sign_of : FuncData} (G_sign_of : FnOk P w K mg base (L2.CX P w) 1 a_sign_of f_sign_of P_sign_of (spD K ct 1 S_sign_of)) (M_sign_of : mg "sign_of" = some (.ref a_sign_of)) (K_sign_of : PySem.W.keepIn K (.ref a_sign_of) = true) (B_sign_of : Binds K f_sign_of P_sign_of []) :
    FnOk P w K mg base (L2.CX P w) (k + 1) a fd P_order_of_picks (spD K ct 4 (U_order_of_picks c_order c_order_of_picks c_order_of_rows)) := by
  refine fn_ok (N := N_order_of_picks) F sc_order_of_picks (by decide) (fun cdv A outer s H G E hr => ?_)
  have nd := sc_order_of_picks.nd
  exact ss_cons (ss_set 4 (se_call G_place_of (hr.mono (Nat.le_trans (by decide) hk)) (takes_of rfl rfl rfl rfl) rfl M_place_of K_place_of B_place_of (sa_cons (se_var 1) (sa_cons (se_ix (se_var 2) (se_int)) (sa_nil))) (lenA_cons (lenA_cons (lenA_nil)))) nd)
    (ss_cons (ss_set 5 (se_call G_place_of (hr.mono (Nat.le_trans (by decide) hk)) (takes_of rfl rfl rfl rfl) rfl M_place_of K_place_of B_place_of (sa_cons (se_var 1) (sa_cons (se_ix (se_var 3) (se_int)) (sa_nil))) (lenA_cons (lenA_cons (lenA_nil)))) nd)
    (ss_cons (ss_if (st_cmp (o_ne (hu_big hr)) (se_var 4) (se_var 5)) (ss_one (ss_ret (se_call G_sign_of (hr.mono (Nat.le_trans (by decide) hk)) (takes_of rfl rfl rfl rfl) rfl M_sign_of K_sign_of B_sign_of (sa_cons (se_bin o_sub (se_var 4) (se_var 5)) (sa_nil)) (lenA_cons (lenA_nil))))) (ss_nil))
    (ss_one (ss_ret (se_call G_order (hr) (takes_of rfl rfl rfl rfl) rfl M_order K_order B_order (sa_cons (se_var 0) (sa_cons (se_ix (se_ix (se_var 1) (se_var 4)) (se_int)) (sa_cons (se_ix (se_var 2) (se_int)) (sa_cons (se_ix (se_var 3) (se_int)) (sa_nil))))) (lenA_cons (lenA_cons (lenA_cons (lenA_cons (lenA_nil))))))))))
set_option maxHeartbeats 4000000 in
theorem ok_order_of_rows {a : Addr} {fd : FuncData} (F : L2.Fun K "order_of_rows" "order_of_rows" s_order_of_rows a fd) {k : Nat} (hk : 81 ≤ k) {c_order c_order_of_picks c_order_of_rows : List D → R D} {a_order : Addr} {f_order : FuncData} (G_order : FnOk P w K mg base (L2.CX P w) k a_order f_order P_order (spD K ct 4 c_order)) (M_order : mg "order" = some (.ref a_order)) (K_order : PySem.W.keepIn K (.ref a_order) = true) (B_order : Binds K f_order P_order []) (Z_len : mg "len" = none) (Z_min : mg "min" = none) (Z_range : mg "range" = none) :
    FnOk P w K mg base (L2.CX P w) (k + 1) a fd P_order_of_rows (spD K ct 4 (U_order_of_rows c_order c_order_of_picks c_order_of_rows)) := by
  refine fn_ok (N := N_order_of_rows) F sc_order_of_rows (by decide) (fun cdv A outer s H G E hr => ?_)
  have nd := sc_order_of_rows.nd
  exact ss_cons (ss_for (passes_of rfl) rfl (si_range1 rfl Z_range (sa_cons (se_callB (b_min2 rfl) rfl Z_min (by decide +kernel) (sa_cons (se_callB (b_len) rfl Z_len (by decide +kernel) (sa_cons (se_var 2) (sa_nil))) (sa_cons (se_callB (b_len) rfl Z_len (by decide +kernel) (sa_cons (se_var 3) (sa_nil))) (sa_nil)))) (sa_nil))) (sg_name 4 nd) (ss_cons (ss_set 5 (se_call G_order (hr) (takes_of rfl rfl rfl rfl) rfl M_order K_order B_order (sa_cons (se_var 0) (sa_cons (se_ix (se_var 1) (se_var 4)) (sa_cons (se_ix (se_var 2) (se_var 4)) (sa_cons (se_ix (se_var 3) (se_var 4)) (sa_nil))))) (lenA_cons (lenA_cons (lenA_cons (lenA_cons (lenA_nil)))))) nd)
    (ss_one (ss_if (st_cmp (o_ne (hu_big hr)) (se_var 5) (se_int)) (ss_one (ss_ret (se_var 5))) (ss_nil)))))
    (ss_one (ss_ret (se_int)))
set_option maxHeartbeats 4000000 in
theorem ok_compared {a : Addr} {fd : FuncData} (F : L2.Fun K "compared" "compared" s_compared a fd) {a_fits : Addr} {f_fits : FuncData} (G_fits : FnOk P w K mg base (L2.CX P w) 81 a_fits f_fits P_fits (spD K ct 3 (S_fits 80))) (M_fits : mg "fits" = some (.ref a_fits)) (K_fits : PySem.W.keepIn K (.ref a_fits) = true) (B_fits : Binds K f_fits P_fits []) {a_order : Addr} {f_order : FuncData} (G_order : FnOk P w K mg base (L2.CX P w) 161 a_order f_order P_order (spD K ct 4 (S_order 80))) (M_order : mg "order" = some (.ref a_order)) (K_order : PySem.W.keepIn K (.ref a_order) = true) (B_order : Binds K f_order P_order []) :
    FnOk P w K mg base (L2.CX P w) 162 a fd P_compared (spD K ct 4 S_compared) := by
  refine fn_ok (N := N_compared) F sc_compared (by decide) (fun cdv A outer s H G E hr => ?_)
  have nd := sc_compared.nd
  exact ss_cons (ss_for (passes_of rfl) rfl (si_seq (SF.se (sf_lst (sa_cons (se_var 2) (sa_cons (se_var 3) (sa_nil)))))) (sg_name 4 nd) (ss_one (ss_if (st_not (st_val (se_call G_fits (hr.mono (by decide)) (takes_of rfl rfl rfl rfl) rfl M_fits K_fits B_fits (sa_cons (se_var 0) (sa_cons (se_var 1) (sa_cons (se_var 4) (sa_nil)))) (lenA_cons (lenA_cons (lenA_cons (lenA_nil))))))) (ss_one (ss_never)) (ss_nil))))
    (ss_one (ss_ret (se_call G_order (hr.mono (by decide)) (takes_of rfl rfl rfl rfl) rfl M_order K_order B_order (sa_cons (se_var 0) (sa_cons (se_var 1) (sa_cons (se_var 2) (sa_cons (se_var 3) (sa_nil))))) (lenA_cons (lenA_cons (lenA_cons (lenA_cons (lenA_nil))))))))
set_option maxHeartbeats 4000000 in
theorem ok_l_table {a : Addr} {fd : FuncData} (F : L2.Fun K "_law_table" "_law_table" s_l_table a fd) {a_l_copy : Addr} {f_l_copy : FuncData} (G_l_copy : FnOk P w K mg base (L2.CX P w) 80 a_l_copy f_l_copy P_l_copy (spD K ct 1 (S_l_copy 80))) (M_l_copy : mg "_law_copy" = some (.ref a_l_copy)) (K_l_copy : PySem.W.keepIn K (.ref a_l_copy) = true) (B_l_copy : Binds K f_l_copy P_l_copy []) {a_l_whole : Addr} {f_l_whole : FuncData} (G_l_whole : FnOk P w K mg base (L2.CX P w) 1 a_l_whole f_l_whole P_l_whole (spD K ct 1 S_l_whole)) (M_l_whole : mg "_law_whole" = some (.ref a_l_whole)) (K_l_whole : PySem.W.keepIn K (.ref a_l_whole) = true) (B_l_whole : Binds K f_l_whole P_l_whole []) {a_compared : Addr} {f_compared : FuncData} (G_compared : FnOk P w K mg base (L2.CX P w) 162 a_compared f_compared P_compared (spD K ct 4 S_compared)) (M_compared : mg "compared" = some (.ref a_compared)) (K_compared : PySem.W.keepIn K (.ref a_compared) = true) (B_compared : Binds K f_compared P_compared []) :
    FnOk P w K mg base (L2.CX P w) 163 a fd P_l_table (spD K ct 2 S_l_table) := by
  refine fn_ok (N := N_l_table) F sc_l_table (by decide) (fun cdv A outer s H G E hr => ?_)
  have nd := sc_l_table.nd
  exact ss_cons (ss_own 2 (sf_lst (sa_nil)) nd)
    (ss_cons (ss_for (passes_of rfl) rfl (si_seq (se_var 1)) (sg_name 3 nd) (ss_cons (ss_own 4 (sf_lst (sa_nil)) nd)
    (ss_cons (ss_for (passes_of rfl) rfl (si_seq (se_var 1)) (sg_name 5 nd) (ss_cons (ss_set 6 (SF.se (sf_lst (sa_cons (se_call G_l_copy (hr.mono (by decide)) (takes_of rfl rfl rfl rfl) rfl M_l_copy K_l_copy B_l_copy (sa_cons (se_ix (se_var 3) (se_int)) (sa_nil)) (lenA_cons (lenA_nil))) (sa_cons (se_call G_l_copy (hr.mono (by decide)) (takes_of rfl rfl rfl rfl) rfl M_l_copy K_l_copy B_l_copy (sa_cons (se_ix (se_var 5) (se_int)) (sa_nil)) (lenA_cons (lenA_nil))) (sa_nil))))) nd)
    (ss_cons (ss_set 7 (se_call G_compared (hr.mono (by decide)) (takes_of rfl rfl rfl rfl) rfl M_compared K_compared B_compared (sa_cons (se_var 0) (sa_cons (se_tup (sa_cons (se_str) (sa_cons (se_ix (se_ix (se_var 0) (se_int)) (se_int)) (sa_nil)))) (sa_cons (se_ix (se_var 6) (se_int)) (sa_cons (se_ix (se_var 6) (se_int)) (sa_nil))))) (lenA_cons (lenA_cons (lenA_cons (lenA_cons (lenA_nil)))))) nd)
    (ss_cons (ss_if (PW.pt (sw_or (st_not (st_val (se_call G_l_whole (hr.mono (by decide)) (takes_of rfl rfl rfl rfl) rfl M_l_whole K_l_whole B_l_whole (sa_cons (se_var 7) (sa_nil)) (lenA_cons (lenA_nil))))) (sw_or (st_cmp o_nin (se_var 7) (SF.se (sf_lst (sa_cons (se_un o_neg (se_int)) (sa_cons (se_int) (sa_cons (se_int) (sa_nil))))))) (sw_or1 (st_cmp (o_ne (hu_big hr)) (se_var 6) (SF.se (sf_lst (sa_cons (se_ix (se_var 3) (se_int)) (sa_cons (se_ix (se_var 5) (se_int)) (sa_nil)))))))))) (ss_one (ss_ret (se_non))) (ss_nil))
    (ss_one (ss_app 4 (se_var 7)))))))
    (ss_one (ss_frz 4 (ss_app 2 (se_var 4)))))))
    (ss_one (ss_frz 2 (ss_ret (se_var 2)))))
set_option maxHeartbeats 4000000 in
theorem ok_law {a : Addr} {fd : FuncData} (F : L2.Fun K "law" "law" s_law a fd) {a_l_book : Addr} {f_l_book : FuncData} (G_l_book : FnOk P w K mg base (L2.CX P w) 2 a_l_book f_l_book P_l_book (spD K ct 1 S_l_book)) (M_l_book : mg "_law_book" = some (.ref a_l_book)) (K_l_book : PySem.W.keepIn K (.ref a_l_book) = true) (B_l_book : Binds K f_l_book P_l_book []) {a_l_in_order : Addr} {f_l_in_order : FuncData} (G_l_in_order : FnOk P w K mg base (L2.CX P w) 1 a_l_in_order f_l_in_order P_l_in_order (spD K ct 2 S_l_in_order)) (M_l_in_order : mg "_law_in_order" = some (.ref a_l_in_order)) (K_l_in_order : PySem.W.keepIn K (.ref a_l_in_order) = true) (B_l_in_order : Binds K f_l_in_order P_l_in_order []) {a_l_leaf : Addr} {f_l_leaf : FuncData} (G_l_leaf : FnOk P w K mg base (L2.CX P w) 1 a_l_leaf f_l_leaf P_l_leaf (spD K ct 2 S_l_leaf)) (M_l_leaf : mg "_law_leaf" = some (.ref a_l_leaf)) (K_l_leaf : PySem.W.keepIn K (.ref a_l_leaf) = true) (B_l_leaf : Binds K f_l_leaf P_l_leaf []) {a_l_put : Addr} {f_l_put : FuncData} (G_l_put : FnOk P w K mg base (L2.CX P w) 2 a_l_put f_l_put P_l_put (spD K ct 3 S_l_put)) (M_l_put : mg "_law_put" = some (.ref a_l_put)) (K_l_put : PySem.W.keepIn K (.ref a_l_put) = true) (B_l_put : Binds K f_l_put P_l_put []) {a_l_table : Addr} {f_l_table : FuncData} (G_l_table : FnOk P w K mg base (L2.CX P w) 163 a_l_table f_l_table P_l_table (spD K ct 2 S_l_table)) (M_l_table : mg "_law_table" = some (.ref a_l_table)) (K_l_table : PySem.W.keepIn K (.ref a_l_table) = true) (B_l_table : Binds K f_l_table P_l_table []) (Z_range : mg "range" = none) :
    FnOk P w K mg base (L2.CX P w) 164 a fd P_law (spD K ct 1 S_law) := by
  refine fn_ok (N := N_law) F sc_law (by decide) (fun cdv A outer s H G E hr => ?_)
  have nd := sc_law.nd
  exact ss_cons (ss_set 1 (se_call G_l_book (hr.mono (by decide)) (takes_of rfl rfl rfl rfl) rfl M_l_book K_l_book B_l_book (sa_cons (se_var 0) (sa_nil)) (lenA_cons (lenA_nil))) nd)
    (ss_cons (ss_set 2 (se_ix (se_ix (se_ix (se_var 1) (se_int)) (se_int)) (se_int)) nd)
    (ss_cons (ss_setLc 3 [("_law_k", 7)] rfl nd rfl rfl (sw_true rfl rfl rfl (by decide +kernel)) (si_range1 rfl Z_range (sa_cons (se_int) (sa_nil))) (blkOk_by (by change blkC N_law (defScope s_law) _ _ = true; decide +kernel)) (by decide) (fun _ _ _ _ _ => sg_name 7 nd) (fun _ _ _ _ _ => sts_nil) (fun _ _ _ _ _ => se_call G_l_leaf (hr.mono (by decide)) takes0 rfl M_l_leaf K_l_leaf B_l_leaf (sa_cons (se_ix (se_var 2) (se_int)) (sa_cons (se_var 7) (sa_nil))) (lenA_cons (lenA_cons (lenA_nil)))))
    (ss_cons (ss_for (passes_of rfl) rfl (si_seq (se_sl (se_var 0) (so_some (se_int)) (so_some (se_int)))) (sg_name 4 nd) (ss_one (ss_set 3 (se_call G_l_put (hr.mono (by decide)) (takes_of rfl rfl rfl rfl) rfl M_l_put K_l_put B_l_put (sa_cons (se_var 3) (sa_cons (se_var 2) (sa_cons (se_var 4) (sa_nil)))) (lenA_cons (lenA_cons (lenA_cons (lenA_nil))))) nd)))
    (ss_cons (ss_set 5 (se_sl (se_var 3) (so_some (se_un o_neg (se_int))) (so_none)) nd)
    (ss_cons (ss_set 6 (se_call G_l_table (hr.mono (by decide)) (takes_of rfl rfl rfl rfl) rfl M_l_table K_l_table B_l_table (sa_cons (se_var 1) (sa_cons (se_var 5) (sa_nil))) (lenA_cons (lenA_cons (lenA_nil)))) nd)
    (ss_one (ss_ret (se_and (se_cmp o_notN (se_var 6) (se_non)) (se_one (se_call G_l_in_order (hr.mono (by decide)) (takes_of rfl rfl rfl rfl) rfl M_l_in_order K_l_in_order B_l_in_order (sa_cons (se_var 6) (sa_cons (se_var 5) (sa_nil))) (lenA_cons (lenA_cons (lenA_nil)))))))))))))
end
def ctOf (c_NoName : Addr) : String → Addr := fun s => if s = "NoName" then c_NoName else 0
set_option maxHeartbeats 4000000 in
theorem all_mk {l : PySem.W.OpenLaw} {w : World} {K : PySem.W.Frag} {h : Heap} {mg : Str → Option Value} {fa : Addr} (X : K.In h) (G : h.Ns mainGlobals mg) (hfa : mg "law" = some (.ref fa))
    {c_NoName : Addr}
    {a_l_cell_at : Addr} {od0 an0 : Option Addr} {sl0 : Array (Option Value)} {oc0 kV0 dc0 pm0 cd0 ct0 : Value}
    {a_l_name : Addr} {od1 an1 : Option Addr} {sl1 : Array (Option Value)} {oc1 kV1 dc1 pm1 cd1 ct1 : Value}
    {a_l_book : Addr} {od2 an2 : Option Addr} {sl2 : Array (Option Value)} {oc2 kV2 dc2 pm2 cd2 ct2 : Value}
    {a_l_in_order : Addr} {od3 an3 : Option Addr} {sl3 : Array (Option Value)} {oc3 kV3 dc3 pm3 cd3 ct3 : Value}
    {a_l_leaf : Addr} {od4 an4 : Option Addr} {sl4 : Array (Option Value)} {oc4 kV4 dc4 pm4 cd4 ct4 : Value}
    {a_l_put : Addr} {od5 an5 : Option Addr} {sl5 : Array (Option Value)} {oc5 kV5 dc5 pm5 cd5 ct5 : Value}
    {a_l_copy : Addr} {od6 an6 : Option Addr} {sl6 : Array (Option Value)} {oc6 kV6 dc6 pm6 cd6 ct6 : Value}
    {a_l_whole : Addr} {od7 an7 : Option Addr} {sl7 : Array (Option Value)} {oc7 kV7 dc7 pm7 cd7 ct7 : Value}
    {a_place_of : Addr} {od8 an8 : Option Addr} {sl8 : Array (Option Value)} {oc8 kV8 dc8 pm8 cd8 ct8 : Value}
    {a_shape_of : Addr} {od9 an9 : Option Addr} {sl9 : Array (Option Value)} {oc9 kV9 dc9 pm9 cd9 ct9 : Value}
    {a_fits_parts : Addr} {od10 an10 : Option Addr} {sl10 : Array (Option Value)} {oc10 kV10 dc10 pm10 cd10 ct10 : Value}
    {a_fits_list : Addr} {od11 an11 : Option Addr} {sl11 : Array (Option Value)} {oc11 kV11 dc11 pm11 cd11 ct11 : Value}
    {a_fits_branch : Addr} {od12 an12 : Option Addr} {sl12 : Array (Option Value)} {oc12 kV12 dc12 pm12 cd12 ct12 : Value}
    {a_fits : Addr} {od13 an13 : Option Addr} {sl13 : Array (Option Value)} {oc13 kV13 dc13 pm13 cd13 ct13 : Value}
    {a_measured : Addr} {od14 an14 : Option Addr} {sl14 : Array (Option Value)} {oc14 kV14 dc14 pm14 cd14 ct14 : Value}
    {a_sign_of : Addr} {od15 an15 : Option Addr} {sl15 : Array (Option Value)} {oc15 kV15 dc15 pm15 cd15 ct15 : Value}
    {a_order_of_texts : Addr} {od16 an16 : Option Addr} {sl16 : Array (Option Value)} {oc16 kV16 dc16 pm16 cd16 ct16 : Value}
    {a_order_of_rows : Addr} {od17 an17 : Option Addr} {sl17 : Array (Option Value)} {oc17 kV17 dc17 pm17 cd17 ct17 : Value}
    {a_order_of_picks : Addr} {od18 an18 : Option Addr} {sl18 : Array (Option Value)} {oc18 kV18 dc18 pm18 cd18 ct18 : Value}
    {a_order : Addr} {od19 an19 : Option Addr} {sl19 : Array (Option Value)} {oc19 kV19 dc19 pm19 cd19 ct19 : Value}
    {a_compared : Addr} {od20 an20 : Option Addr} {sl20 : Array (Option Value)} {oc20 kV20 dc20 pm20 cd20 ct20 : Value}
    {a_l_table : Addr} {od21 an21 : Option Addr} {sl21 : Array (Option Value)} {oc21 kV21 dc21 pm21 cd21 ct21 : Value}
    {a_law : Addr} {od22 an22 : Option Addr} {sl22 : Array (Option Value)} {oc22 kV22 dc22 pm22 cd22 ct22 : Value}
    (N_0 : PySem.W.nsIn K mainGlobals "_law_cell_at" = some (some (.ref a_l_cell_at)))
    (L_0 : K.lookup a_l_cell_at = some ⟨oc0, od0, .func (PySem.W.fnOf "_law_cell_at" "_law_cell_at" (defArgs s_l_cell_at) (defBody s_l_cell_at) (defScope s_l_cell_at) .none kV0 dc0 pm0 an0 cd0 ct0), sl0⟩)
    (C_0 : PySem.W.codeIn K cd0 "_law_cell_at" = true)
    (K_l_cell_at : PySem.W.keepIn K (.ref a_l_cell_at) = true)
    (N_1 : PySem.W.nsIn K mainGlobals "_law_name" = some (some (.ref a_l_name)))
    (L_1 : K.lookup a_l_name = some ⟨oc1, od1, .func (PySem.W.fnOf "_law_name" "_law_name" (defArgs s_l_name) (defBody s_l_name) (defScope s_l_name) .none kV1 dc1 pm1 an1 cd1 ct1), sl1⟩)
    (C_1 : PySem.W.codeIn K cd1 "_law_name" = true)
    (K_l_name : PySem.W.keepIn K (.ref a_l_name) = true)
    (N_2 : PySem.W.nsIn K mainGlobals "_law_book" = some (some (.ref a_l_book)))
    (L_2 : K.lookup a_l_book = some ⟨oc2, od2, .func (PySem.W.fnOf "_law_book" "_law_book" (defArgs s_l_book) (defBody s_l_book) (defScope s_l_book) .none kV2 dc2 pm2 an2 cd2 ct2), sl2⟩)
    (C_2 : PySem.W.codeIn K cd2 "_law_book" = true)
    (K_l_book : PySem.W.keepIn K (.ref a_l_book) = true)
    (N_3 : PySem.W.nsIn K mainGlobals "_law_in_order" = some (some (.ref a_l_in_order)))
    (L_3 : K.lookup a_l_in_order = some ⟨oc3, od3, .func (PySem.W.fnOf "_law_in_order" "_law_in_order" (defArgs s_l_in_order) (defBody s_l_in_order) (defScope s_l_in_order) .none kV3 dc3 pm3 an3 cd3 ct3), sl3⟩)
    (C_3 : PySem.W.codeIn K cd3 "_law_in_order" = true)
    (K_l_in_order : PySem.W.keepIn K (.ref a_l_in_order) = true)
    (N_4 : PySem.W.nsIn K mainGlobals "_law_leaf" = some (some (.ref a_l_leaf)))
    (L_4 : K.lookup a_l_leaf = some ⟨oc4, od4, .func (PySem.W.fnOf "_law_leaf" "_law_leaf" (defArgs s_l_leaf) (defBody s_l_leaf) (defScope s_l_leaf) .none kV4 dc4 pm4 an4 cd4 ct4), sl4⟩)
    (C_4 : PySem.W.codeIn K cd4 "_law_leaf" = true)
    (K_l_leaf : PySem.W.keepIn K (.ref a_l_leaf) = true)
    (N_5 : PySem.W.nsIn K mainGlobals "_law_put" = some (some (.ref a_l_put)))
    (L_5 : K.lookup a_l_put = some ⟨oc5, od5, .func (PySem.W.fnOf "_law_put" "_law_put" (defArgs s_l_put) (defBody s_l_put) (defScope s_l_put) .none kV5 dc5 pm5 an5 cd5 ct5), sl5⟩)
    (C_5 : PySem.W.codeIn K cd5 "_law_put" = true)
    (K_l_put : PySem.W.keepIn K (.ref a_l_put) = true)
    (N_6 : PySem.W.nsIn K mainGlobals "_law_copy" = some (some (.ref a_l_copy)))
    (L_6 : K.lookup a_l_copy = some ⟨oc6, od6, .func (PySem.W.fnOf "_law_copy" "_law_copy" (defArgs s_l_copy) (defBody s_l_copy) (defScope s_l_copy) .none kV6 dc6 pm6 an6 cd6 ct6), sl6⟩)
    (C_6 : PySem.W.codeIn K cd6 "_law_copy" = true)
    (K_l_copy : PySem.W.keepIn K (.ref a_l_copy) = true)
    (N_7 : PySem.W.nsIn K mainGlobals "_law_whole" = some (some (.ref a_l_whole)))
    (L_7 : K.lookup a_l_whole = some ⟨oc7, od7, .func (PySem.W.fnOf "_law_whole" "_law_whole" (defArgs s_l_whole) (defBody s_l_whole) (defScope s_l_whole) .none kV7 dc7 pm7 an7 cd7 ct7), sl7⟩)
    (C_7 : PySem.W.codeIn K cd7 "_law_whole" = true)
    (K_l_whole : PySem.W.keepIn K (.ref a_l_whole) = true)
    (N_8 : PySem.W.nsIn K mainGlobals "place_of" = some (some (.ref a_place_of)))
    (L_8 : K.lookup a_place_of = some ⟨oc8, od8, .func (PySem.W.fnOf "place_of" "place_of" (defArgs s_place_of) (defBody s_place_of) (defScope s_place_of) .none kV8 dc8 pm8 an8 cd8 ct8), sl8⟩)
    (C_8 : PySem.W.codeIn K cd8 "place_of" = true)
    (K_place_of : PySem.W.keepIn K (.ref a_place_of) = true)
    (N_9 : PySem.W.nsIn K mainGlobals "shape_of" = some (some (.ref a_shape_of)))
    (L_9 : K.lookup a_shape_of = some ⟨oc9, od9, .func (PySem.W.fnOf "shape_of" "shape_of" (defArgs s_shape_of) (defBody s_shape_of) (defScope s_shape_of) .none kV9 dc9 pm9 an9 cd9 ct9), sl9⟩)
    (C_9 : PySem.W.codeIn K cd9 "shape_of" = true)
    (K_shape_of : PySem.W.keepIn K (.ref a_shape_of) = true)
    (N_10 : PySem.W.nsIn K mainGlobals "fits_parts" = some (some (.ref a_fits_parts)))
    (L_10 : K.lookup a_fits_parts = some ⟨oc10, od10, .func (PySem.W.fnOf "fits_parts" "fits_parts" (defArgs s_fits_parts) (defBody s_fits_parts) (defScope s_fits_parts) .none kV10 dc10 pm10 an10 cd10 ct10), sl10⟩)
    (C_10 : PySem.W.codeIn K cd10 "fits_parts" = true)
    (K_fits_parts : PySem.W.keepIn K (.ref a_fits_parts) = true)
    (N_11 : PySem.W.nsIn K mainGlobals "fits_list" = some (some (.ref a_fits_list)))
    (L_11 : K.lookup a_fits_list = some ⟨oc11, od11, .func (PySem.W.fnOf "fits_list" "fits_list" (defArgs s_fits_list) (defBody s_fits_list) (defScope s_fits_list) .none kV11 dc11 pm11 an11 cd11 ct11), sl11⟩)
    (C_11 : PySem.W.codeIn K cd11 "fits_list" = true)
    (K_fits_list : PySem.W.keepIn K (.ref a_fits_list) = true)
    (N_12 : PySem.W.nsIn K mainGlobals "fits_branch" = some (some (.ref a_fits_branch)))
    (L_12 : K.lookup a_fits_branch = some ⟨oc12, od12, .func (PySem.W.fnOf "fits_branch" "fits_branch" (defArgs s_fits_branch) (defBody s_fits_branch) (defScope s_fits_branch) .none kV12 dc12 pm12 an12 cd12 ct12), sl12⟩)
    (C_12 : PySem.W.codeIn K cd12 "fits_branch" = true)
    (K_fits_branch : PySem.W.keepIn K (.ref a_fits_branch) = true)
    (N_13 : PySem.W.nsIn K mainGlobals "fits" = some (some (.ref a_fits)))
    (L_13 : K.lookup a_fits = some ⟨oc13, od13, .func (PySem.W.fnOf "fits" "fits" (defArgs s_fits) (defBody s_fits) (defScope s_fits) .none kV13 dc13 pm13 an13 cd13 ct13), sl13⟩)
    (C_13 : PySem.W.codeIn K cd13 "fits" = true)
    (K_fits : PySem.W.keepIn K (.ref a_fits) = true)
    (N_14 : PySem.W.nsIn K mainGlobals "measured" = some (some (.ref a_measured)))
    (L_14 : K.lookup a_measured = some ⟨oc14, od14, .func (PySem.W.fnOf "measured" "measured" (defArgs s_measured) (defBody s_measured) (defScope s_measured) .none kV14 dc14 pm14 an14 cd14 ct14), sl14⟩)
    (C_14 : PySem.W.codeIn K cd14 "measured" = true)
    (K_measured : PySem.W.keepIn K (.ref a_measured) = true)
    (N_15 : PySem.W.nsIn K mainGlobals "sign_of" = some (some (.ref a_sign_of)))
    (L_15 : K.lookup a_sign_of = some ⟨oc15, od15, .func (PySem.W.fnOf "sign_of" "sign_of" (defArgs s_sign_of) (defBody s_sign_of) (defScope s_sign_of) .none kV15 dc15 pm15 an15 cd15 ct15), sl15⟩)
    (C_15 : PySem.W.codeIn K cd15 "sign_of" = true)
    (K_sign_of : PySem.W.keepIn K (.ref a_sign_of) = true)
    (N_16 : PySem.W.nsIn K mainGlobals "order_of_texts" = some (some (.ref a_order_of_texts)))
    (L_16 : K.lookup a_order_of_texts = some ⟨oc16, od16, .func (PySem.W.fnOf "order_of_texts" "order_of_texts" (defArgs s_order_of_texts) (defBody s_order_of_texts) (defScope s_order_of_texts) .none kV16 dc16 pm16 an16 cd16 ct16), sl16⟩)
    (C_16 : PySem.W.codeIn K cd16 "order_of_texts" = true)
    (K_order_of_texts : PySem.W.keepIn K (.ref a_order_of_texts) = true)
    (N_17 : PySem.W.nsIn K mainGlobals "order_of_rows" = some (some (.ref a_order_of_rows)))
    (L_17 : K.lookup a_order_of_rows = some ⟨oc17, od17, .func (PySem.W.fnOf "order_of_rows" "order_of_rows" (defArgs s_order_of_rows) (defBody s_order_of_rows) (defScope s_order_of_rows) .none kV17 dc17 pm17 an17 cd17 ct17), sl17⟩)
    (C_17 : PySem.W.codeIn K cd17 "order_of_rows" = true)
    (K_order_of_rows : PySem.W.keepIn K (.ref a_order_of_rows) = true)
    (N_18 : PySem.W.nsIn K mainGlobals "order_of_picks" = some (some (.ref a_order_of_picks)))
    (L_18 : K.lookup a_order_of_picks = some ⟨oc18, od18, .func (PySem.W.fnOf "order_of_picks" "order_of_picks" (defArgs s_order_of_picks) (defBody s_order_of_picks) (defScope s_order_of_picks) .none kV18 dc18 pm18 an18 cd18 ct18), sl18⟩)
    (C_18 : PySem.W.codeIn K cd18 "order_of_picks" = true)
    (K_order_of_picks : PySem.W.keepIn K (.ref a_order_of_picks) = true)
    (N_19 : PySem.W.nsIn K mainGlobals "order" = some (some (.ref a_order)))
    (L_19 : K.lookup a_order = some ⟨oc19, od19, .func (PySem.W.fnOf "order" "order" (defArgs s_order) (defBody s_order) (defScope s_order) .none kV19 dc19 pm19 an19 cd19 ct19), sl19⟩)
    (C_19 : PySem.W.codeIn K cd19 "order" = true)
    (K_order : PySem.W.keepIn K (.ref a_order) = true)
    (N_20 : PySem.W.nsIn K mainGlobals "compared" = some (some (.ref a_compared)))
    (L_20 : K.lookup a_compared = some ⟨oc20, od20, .func (PySem.W.fnOf "compared" "compared" (defArgs s_compared) (defBody s_compared) (defScope s_compared) .none kV20 dc20 pm20 an20 cd20 ct20), sl20⟩)
    (C_20 : PySem.W.codeIn K cd20 "compared" = true)
    (K_compared : PySem.W.keepIn K (.ref a_compared) = true)
    (N_21 : PySem.W.nsIn K mainGlobals "_law_table" = some (some (.ref a_l_table)))
    (L_21 : K.lookup a_l_table = some ⟨oc21, od21, .func (PySem.W.fnOf "_law_table" "_law_table" (defArgs s_l_table) (defBody s_l_table) (defScope s_l_table) .none kV21 dc21 pm21 an21 cd21 ct21), sl21⟩)
    (C_21 : PySem.W.codeIn K cd21 "_law_table" = true)
    (K_l_table : PySem.W.keepIn K (.ref a_l_table) = true)
    (N_22 : PySem.W.nsIn K mainGlobals "law" = some (some (.ref a_law)))
    (L_22 : K.lookup a_law = some ⟨oc22, od22, .func (PySem.W.fnOf "law" "law" (defArgs s_law) (defBody s_law) (defScope s_law) .none kV22 dc22 pm22 an22 cd22 ct22), sl22⟩)
    (C_22 : PySem.W.codeIn K cd22 "law" = true)
    (K_law : PySem.W.keepIn K (.ref a_law) = true)
    (Y_all : PySem.W.nsIn K mainGlobals "all" = some none)
    (Y_bool : PySem.W.nsIn K mainGlobals "bool" = some none)
    (Y_enumerate : PySem.W.nsIn K mainGlobals "enumerate" = some none)
    (Y_int : PySem.W.nsIn K mainGlobals "int" = some none)
    (Y_isinstance : PySem.W.nsIn K mainGlobals "isinstance" = some none)
    (Y_len : PySem.W.nsIn K mainGlobals "len" = some none)
    (Y_list : PySem.W.nsIn K mainGlobals "list" = some none)
    (Y_max : PySem.W.nsIn K mainGlobals "max" = some none)
    (Y_min : PySem.W.nsIn K mainGlobals "min" = some none)
    (Y_range : PySem.W.nsIn K mainGlobals "range" = some none)
    (Y_str : PySem.W.nsIn K mainGlobals "str" = some none)
    (Y_sum : PySem.W.nsIn K mainGlobals "sum" = some none)
    (Y_tuple : PySem.W.nsIn K mainGlobals "tuple" = some none)
    (Y_zip : PySem.W.nsIn K mainGlobals "zip" = some none)
    (Cg_NoName : PySem.W.nsIn K mainGlobals "NoName" = some (some (.ref c_NoName)))
    (Ck_NoName : PySem.W.keepIn K (.ref c_NoName) = true)
    (Cq_NoName : PySem.W.excIn K c_NoName [.type "ValueError", .type "Exception", .type "BaseException", .type "object"] "ValueError.__new__" = true)
    (Cb_NoName : PySem.W.subIn K (.ref c_NoName) (.type "BaseException") = some true)
    (Ct_NoName : PySem.W.typeIn K (.ref c_NoName) = some (.type "type"))
    (Cd_NoName : PySem.W.hasDictIn K c_NoName = true) :
    ∃ fd : FuncData, (∀ (s : Shared) (v : Value), BindsTo s fd ⟨[v], []⟩ [("_law_script", v)]) ∧ ∀ base : Heap, K.In base → base.Ns mainGlobals mg → FnOk l.prog w K mg base (L2.CX l.prog w) 164 fa fd ["_law_script"] (spD K (fun _ => 0) 1 (hush S_law)) := by
  have e := hfa.symm.trans (PySem.W.mg_of X G N_22)
  cases e
  have F_l_cell_at := fun_mk (st := s_l_cell_at) L_0 C_0 K_l_cell_at
  have B_l_cell_at := F_l_cell_at.binds (ps := P_l_cell_at) fun _ _ _ _ _ _ us hl => match us, hl with | [_, _], _ => rfl
  have M_l_cell_at := PySem.W.mg_of X G N_0
  have F_l_name := fun_mk (st := s_l_name) L_1 C_1 K_l_name
  have B_l_name := F_l_name.binds (ps := P_l_name) fun _ _ _ _ _ _ us hl => match us, hl with | [_, _], _ => rfl
  have M_l_name := PySem.W.mg_of X G N_1
  have F_l_book := fun_mk (st := s_l_book) L_2 C_2 K_l_book
  have B_l_book := F_l_book.binds (ps := P_l_book) fun _ _ _ _ _ _ us hl => match us, hl with | [_], _ => rfl
  have M_l_book := PySem.W.mg_of X G N_2
  have F_l_in_order := fun_mk (st := s_l_in_order) L_3 C_3 K_l_in_order
  have B_l_in_order := F_l_in_order.binds (ps := P_l_in_order) fun _ _ _ _ _ _ us hl => match us, hl with | [_, _], _ => rfl
  have M_l_in_order := PySem.W.mg_of X G N_3
  have F_l_leaf := fun_mk (st := s_l_leaf) L_4 C_4 K_l_leaf
  have B_l_leaf := F_l_leaf.binds (ps := P_l_leaf) fun _ _ _ _ _ _ us hl => match us, hl with | [_, _], _ => rfl
  have M_l_leaf := PySem.W.mg_of X G N_4
  have F_l_put := fun_mk (st := s_l_put) L_5 C_5 K_l_put
  have B_l_put := F_l_put.binds (ps := P_l_put) fun _ _ _ _ _ _ us hl => match us, hl with | [_, _, _], _ => rfl
  have M_l_put := PySem.W.mg_of X G N_5
  have F_l_copy := fun_mk (st := s_l_copy) L_6 C_6 K_l_copy
  have B_l_copy := F_l_copy.binds (ps := P_l_copy) fun _ _ _ _ _ _ us hl => match us, hl with | [_], _ => rfl
  have M_l_copy := PySem.W.mg_of X G N_6
  have F_l_whole := fun_mk (st := s_l_whole) L_7 C_7 K_l_whole
  have B_l_whole := F_l_whole.binds (ps := P_l_whole) fun _ _ _ _ _ _ us hl => match us, hl with | [_], _ => rfl
  have M_l_whole := PySem.W.mg_of X G N_7
  have F_place_of := fun_mk (st := s_place_of) L_8 C_8 K_place_of
  have B_place_of := F_place_of.binds (ps := P_place_of) fun _ _ _ _ _ _ us hl => match us, hl with | [_, _], _ => rfl
  have M_place_of := PySem.W.mg_of X G N_8
  have F_shape_of := fun_mk (st := s_shape_of) L_9 C_9 K_shape_of
  have B_shape_of := F_shape_of.binds (ps := P_shape_of) fun _ _ _ _ _ _ us hl => match us, hl with | [_, _], _ => rfl
  have M_shape_of := PySem.W.mg_of X G N_9
  have F_fits_parts := fun_mk (st := s_fits_parts) L_10 C_10 K_fits_parts
  have B_fits_parts := F_fits_parts.binds (ps := P_fits_parts) fun _ _ _ _ _ _ us hl => match us, hl with | [_, _, _], _ => rfl
  have M_fits_parts := PySem.W.mg_of X G N_10
  have F_fits_list := fun_mk (st := s_fits_list) L_11 C_11 K_fits_list
  have B_fits_list := F_fits_list.binds (ps := P_fits_list) fun _ _ _ _ _ _ us hl => match us, hl with | [_, _, _], _ => rfl
  have M_fits_list := PySem.W.mg_of X G N_11
  have F_fits_branch := fun_mk (st := s_fits_branch) L_12 C_12 K_fits_branch
  have B_fits_branch := F_fits_branch.binds (ps := P_fits_branch) fun _ _ _ _ _ _ us hl => match us, hl with | [_, _, _], _ => rfl
  have M_fits_branch := PySem.W.mg_of X G N_12
  have F_fits := fun_mk (st := s_fits) L_13 C_13 K_fits
  have B_fits := F_fits.binds (ps := P_fits) fun _ _ _ _ _ _ us hl => match us, hl with | [_, _, _], _ => rfl
  have M_fits := PySem.W.mg_of X G N_13
  have F_measured := fun_mk (st := s_measured) L_14 C_14 K_measured
  have B_measured := F_measured.binds (ps := P_measured) fun _ _ _ _ _ _ us hl => match us, hl with | [_, _, _], _ => rfl
  have M_measured := PySem.W.mg_of X G N_14
  have F_sign_of := fun_mk (st := s_sign_of) L_15 C_15 K_sign_of
  have B_sign_of := F_sign_of.binds (ps := P_sign_of) fun _ _ _ _ _ _ us hl => match us, hl with | [_], _ => rfl
  have M_sign_of := PySem.W.mg_of X G N_15
  have F_order_of_texts := fun_mk (st := s_order_of_texts) L_16 C_16 K_order_of_texts
  have B_order_of_texts := F_order_of_texts.binds (ps := P_order_of_texts) fun _ _ _ _ _ _ us hl => match us, hl with | [_, _, _], _ => rfl
  have M_order_of_texts := PySem.W.mg_of X G N_16
  have F_order_of_rows := fun_mk (st := s_order_of_rows) L_17 C_17 K_order_of_rows
  have B_order_of_rows := F_order_of_rows.binds (ps := P_order_of_rows) fun _ _ _ _ _ _ us hl => match us, hl with | [_, _, _, _], _ => rfl
  have M_order_of_rows := PySem.W.mg_of X G N_17
  have F_order_of_picks := fun_mk (st := s_order_of_picks) L_18 C_18 K_order_of_picks
  have B_order_of_picks := F_order_of_picks.binds (ps := P_order_of_picks) fun _ _ _ _ _ _ us hl => match us, hl with | [_, _, _, _], _ => rfl
  have M_order_of_picks := PySem.W.mg_of X G N_18
  have F_order := fun_mk (st := s_order) L_19 C_19 K_order
  have B_order := F_order.binds (ps := P_order) fun _ _ _ _ _ _ us hl => match us, hl with | [_, _, _, _], _ => rfl
  have M_order := PySem.W.mg_of X G N_19
  have F_compared := fun_mk (st := s_compared) L_20 C_20 K_compared
  have B_compared := F_compared.binds (ps := P_compared) fun _ _ _ _ _ _ us hl => match us, hl with | [_, _, _, _], _ => rfl
  have M_compared := PySem.W.mg_of X G N_20
  have F_l_table := fun_mk (st := s_l_table) L_21 C_21 K_l_table
  have B_l_table := F_l_table.binds (ps := P_l_table) fun _ _ _ _ _ _ us hl => match us, hl with | [_, _], _ => rfl
  have M_l_table := PySem.W.mg_of X G N_21
  have F_law := fun_mk (st := s_law) L_22 C_22 K_law
  have B_law := F_law.binds (ps := P_law) fun _ _ _ _ _ _ us hl => match us, hl with | [_], _ => rfl
  have M_law := PySem.W.mg_of X G N_22
  have Z_all := PySem.W.mg_none_of X G Y_all
  have Z_bool := PySem.W.mg_none_of X G Y_bool
  have Z_enumerate := PySem.W.mg_none_of X G Y_enumerate
  have Z_int := PySem.W.mg_none_of X G Y_int
  have Z_isinstance := PySem.W.mg_none_of X G Y_isinstance
  have Z_len := PySem.W.mg_none_of X G Y_len
  have Z_list := PySem.W.mg_none_of X G Y_list
  have Z_max := PySem.W.mg_none_of X G Y_max
  have Z_min := PySem.W.mg_none_of X G Y_min
  have Z_range := PySem.W.mg_none_of X G Y_range
  have Z_str := PySem.W.mg_none_of X G Y_str
  have Z_sum := PySem.W.mg_none_of X G Y_sum
  have Z_tuple := PySem.W.mg_none_of X G Y_tuple
  have Z_zip := PySem.W.mg_none_of X G Y_zip
  have X_NoName : XC K mg (ctOf c_NoName) "NoName" := ⟨PySem.W.mg_of X G Cg_NoName, Ck_NoName, Cq_NoName, Cb_NoName, Ct_NoName, Cd_NoName⟩
  refine ⟨PySem.W.fnOf "law" "law" (defArgs s_law) (defBody s_law) (defScope s_law) .none kV22 dc22 pm22 an22 cd22 ct22, fun s v => .of_eq rfl, fun base _ _ => ?_⟩
  have G_l_cell_at := ok_l_cell_at (P := l.prog) (w := w) (mg := mg) (base := base) (ct := (ctOf c_NoName)) F_l_cell_at Z_len
  have G_l_name := ok_l_name (P := l.prog) (w := w) (mg := mg) (base := base) (ct := (ctOf c_NoName)) F_l_name Z_range
  have G_l_book := ok_l_book (P := l.prog) (w := w) (mg := mg) (base := base) (ct := (ctOf c_NoName)) F_l_book G_l_cell_at M_l_cell_at K_l_cell_at B_l_cell_at G_l_name M_l_name K_l_name B_l_name Z_range
  have G_l_in_order := ok_l_in_order (P := l.prog) (w := w) (mg := mg) (base := base) (ct := (ctOf c_NoName)) F_l_in_order Z_len Z_range
  have G_l_leaf := ok_l_leaf (P := l.prog) (w := w) (mg := mg) (base := base) (ct := (ctOf c_NoName)) F_l_leaf
  have G_l_put := ok_l_put (P := l.prog) (w := w) (mg := mg) (base := base) (ct := (ctOf c_NoName)) F_l_put G_l_leaf M_l_leaf K_l_leaf B_l_leaf Z_len Z_max Z_sum Z_tuple
  have Q_l_copy : ∀ n : Nat, FnOk l.prog w K mg base (L2.CX l.prog w) (0 + n) a_l_copy (PySem.W.fnOf "_law_copy" "_law_copy" (defArgs s_l_copy) (defBody s_l_copy) (defScope s_l_copy) .none kV6 dc6 pm6 an6 cd6 ct6) P_l_copy (spD K (ctOf c_NoName) 1 (S_l_copy n)) := by
    intro n
    induction n with
    | zero => exact (fn_zero (ps := P_l_copy)).mono (Nat.zero_le _)
    | succ n ih =>
      have G_l_copy := ih
      exact ok_l_copy (P := l.prog) (w := w) (mg := mg) (base := base) (ct := (ctOf c_NoName)) F_l_copy (Nat.le_add_right _ _) G_l_copy M_l_copy K_l_copy B_l_copy Z_isinstance Z_list Z_tuple
  have G_l_copy := Q_l_copy 80
  have G_l_whole := ok_l_whole (P := l.prog) (w := w) (mg := mg) (base := base) (ct := (ctOf c_NoName)) F_l_whole Z_bool Z_int Z_isinstance
  have G_place_of := ok_place_of (P := l.prog) (w := w) (mg := mg) (base := base) (ct := (ctOf c_NoName)) F_place_of Z_enumerate
  have G_shape_of := ok_shape_of (P := l.prog) (w := w) (mg := mg) (base := base) (ct := (ctOf c_NoName)) F_shape_of X_NoName
  have Q_fits : ∀ n : Nat, FnOk l.prog w K mg base (L2.CX l.prog w) (1 + n) a_fits (PySem.W.fnOf "fits" "fits" (defArgs s_fits) (defBody s_fits) (defScope s_fits) .none kV13 dc13 pm13 an13 cd13 ct13) P_fits (spD K (ctOf c_NoName) 3 (S_fits n)) ∧ FnOk l.prog w K mg base (L2.CX l.prog w) (1 + n) a_fits_branch (PySem.W.fnOf "fits_branch" "fits_branch" (defArgs s_fits_branch) (defBody s_fits_branch) (defScope s_fits_branch) .none kV12 dc12 pm12 an12 cd12 ct12) P_fits_branch (spD K (ctOf c_NoName) 3 (S_fits_branch n)) ∧ FnOk l.prog w K mg base (L2.CX l.prog w) (1 + n) a_fits_list (PySem.W.fnOf "fits_list" "fits_list" (defArgs s_fits_list) (defBody s_fits_list) (defScope s_fits_list) .none kV11 dc11 pm11 an11 cd11 ct11) P_fits_list (spD K (ctOf c_NoName) 3 (S_fits_list n)) ∧ FnOk l.prog w K mg base (L2.CX l.prog w) (1 + n) a_fits_parts (PySem.W.fnOf "fits_parts" "fits_parts" (defArgs s_fits_parts) (defBody s_fits_parts) (defScope s_fits_parts) .none kV10 dc10 pm10 an10 cd10 ct10) P_fits_parts (spD K (ctOf c_NoName) 3 (S_fits_parts n)) := by
    intro n
    induction n with
    | zero => exact ⟨(fn_zero (ps := P_fits)).mono (Nat.zero_le _), (fn_zero (ps := P_fits_branch)).mono (Nat.zero_le _), (fn_zero (ps := P_fits_list)).mono (Nat.zero_le _), (fn_zero (ps := P_fits_parts)).mono (Nat.zero_le _)⟩
    | succ n ih =>
      obtain ⟨G_fits, G_fits_branch, G_fits_list, G_fits_parts⟩ := ih
      exact ⟨ok_fits (P := l.prog) (w := w) (mg := mg) (base := base) (ct := (ctOf c_NoName)) F_fits (Nat.le_add_right _ _) G_fits M_fits K_fits B_fits G_fits_branch M_fits_branch K_fits_branch B_fits_branch G_fits_list M_fits_list K_fits_list B_fits_list G_fits_parts M_fits_parts K_fits_parts B_fits_parts G_shape_of M_shape_of K_shape_of B_shape_of Z_all Z_bool Z_int Z_isinstance Z_list Z_str Z_tuple, ok_fits_branch (P := l.prog) (w := w) (mg := mg) (base := base) (ct := (ctOf c_NoName)) F_fits_branch (Nat.le_add_right _ _) G_fits M_fits K_fits B_fits G_place_of M_place_of K_place_of B_place_of Z_isinstance Z_len Z_str, ok_fits_list (P := l.prog) (w := w) (mg := mg) (base := base) (ct := (ctOf c_NoName)) F_fits_list (Nat.le_add_right _ _) G_fits M_fits K_fits B_fits, ok_fits_parts (P := l.prog) (w := w) (mg := mg) (base := base) (ct := (ctOf c_NoName)) F_fits_parts (Nat.le_add_right _ _) G_fits M_fits K_fits B_fits Z_len Z_zip⟩
  obtain ⟨G_fits, G_fits_branch, G_fits_list, G_fits_parts⟩ := Q_fits 80
  have Q_measured : ∀ n : Nat, FnOk l.prog w K mg base (L2.CX l.prog w) (1 + n) a_measured (PySem.W.fnOf "measured" "measured" (defArgs s_measured) (defBody s_measured) (defScope s_measured) .none kV14 dc14 pm14 an14 cd14 ct14) P_measured (spD K (ctOf c_NoName) 3 (S_measured n)) := by
    intro n
    induction n with
    | zero => exact (fn_zero (ps := P_measured)).mono (Nat.zero_le _)
    | succ n ih =>
      have G_measured := ih
      exact ok_measured (P := l.prog) (w := w) (mg := mg) (base := base) (ct := (ctOf c_NoName)) F_measured (Nat.le_add_right _ _) G_measured M_measured K_measured B_measured G_place_of M_place_of K_place_of B_place_of G_shape_of M_shape_of K_shape_of B_shape_of Z_len Z_sum Z_zip
  have G_measured := Q_measured 80
  have G_sign_of := ok_sign_of (P := l.prog) (w := w) (mg := mg) (base := base) (ct := (ctOf c_NoName)) F_sign_of Z_int
  have G_order_of_texts := ok_order_of_texts (P := l.prog) (w := w) (mg := mg) (base := base) (ct := (ctOf c_NoName)) F_order_of_texts G_sign_of M_sign_of K_sign_of B_sign_of Z_zip
  have Q_order : ∀ n : Nat, FnOk l.prog w K mg base (L2.CX l.prog w) (81 + n) a_order (PySem.W.fnOf "order" "order" (defArgs s_order) (defBody s_order) (defScope s_order) .none kV19 dc19 pm19 an19 cd19 ct19) P_order (spD K (ctOf c_NoName) 4 (S_order n)) ∧ FnOk l.prog w K mg base (L2.CX l.prog w) (81 + n) a_order_of_picks (PySem.W.fnOf "order_of_picks" "order_of_picks" (defArgs s_order_of_picks) (defBody s_order_of_picks) (defScope s_order_of_picks) .none kV18 dc18 pm18 an18 cd18 ct18) P_order_of_picks (spD K (ctOf c_NoName) 4 (S_order_of_picks n)) ∧ FnOk l.prog w K mg base (L2.CX l.prog w) (81 + n) a_order_of_rows (PySem.W.fnOf "order_of_rows" "order_of_rows" (defArgs s_order_of_rows) (defBody s_order_of_rows) (defScope s_order_of_rows) .none kV17 dc17 pm17 an17 cd17 ct17) P_order_of_rows (spD K (ctOf c_NoName) 4 (S_order_of_rows n)) := by
    intro n
    induction n with
    | zero => exact ⟨(fn_zero (ps := P_order)).mono (Nat.zero_le _), (fn_zero (ps := P_order_of_picks)).mono (Nat.zero_le _), (fn_zero (ps := P_order_of_rows)).mono (Nat.zero_le _)⟩
    | succ n ih =>
      obtain ⟨G_order, G_order_of_picks, G_order_of_rows⟩ := ih
      exact ⟨ok_order (P := l.prog) (w := w) (mg := mg) (base := base) (ct := (ctOf c_NoName)) F_order (Nat.le_add_right _ _) G_measured M_measured K_measured B_measured G_order M_order K_order B_order G_order_of_picks M_order_of_picks K_order_of_picks B_order_of_picks G_order_of_rows M_order_of_rows K_order_of_rows B_order_of_rows G_order_of_texts M_order_of_texts K_order_of_texts B_order_of_texts G_shape_of M_shape_of K_shape_of B_shape_of G_sign_of M_sign_of K_sign_of B_sign_of, ok_order_of_picks (P := l.prog) (w := w) (mg := mg) (base := base) (ct := (ctOf c_NoName)) F_order_of_picks (Nat.le_add_right _ _) G_order M_order K_order B_order G_place_of M_place_of K_place_of B_place_of G_sign_of M_sign_of K_sign_of B_sign_of, ok_order_of_rows (P := l.prog) (w := w) (mg := mg) (base := base) (ct := (ctOf c_NoName)) F_order_of_rows (Nat.le_add_right _ _) G_order M_order K_order B_order Z_len Z_min Z_range⟩
  obtain ⟨G_order, G_order_of_picks, G_order_of_rows⟩ := Q_order 80
  have G_compared := ok_compared (P := l.prog) (w := w) (mg := mg) (base := base) (ct := (ctOf c_NoName)) F_compared G_fits M_fits K_fits B_fits G_order M_order K_order B_order
  have G_l_table := ok_l_table (P := l.prog) (w := w) (mg := mg) (base := base) (ct := (ctOf c_NoName)) F_l_table G_l_copy M_l_copy K_l_copy B_l_copy G_l_whole M_l_whole K_l_whole B_l_whole G_compared M_compared K_compared B_compared
  have G_law := ok_law (P := l.prog) (w := w) (mg := mg) (base := base) (ct := (ctOf c_NoName)) F_law G_l_book M_l_book K_l_book B_l_book G_l_in_order M_l_in_order K_l_in_order B_l_in_order G_l_leaf M_l_leaf K_l_leaf B_l_leaf G_l_put M_l_put K_l_put B_l_put G_l_table M_l_table K_l_table B_l_table Z_range
  exact fn_hush G_law
end Law

namespace Law
open PySem L2 Fs MCh
/-! == of data -/
def eqk (k : Nat) (d : D) : Prop := ∃ p, toPy d = some p ∧ p.canLay0 = true ∧ p.depth ≤ k
theorem eqk_int (k : Nat) (i : Int) : eqk k (.int i) := ⟨.int i, by simp [toPy], by simp [PyData.canLay0], by simp [PyData.depth]⟩
theorem eqk_str (k : Nat) {z : Str} (h : PyData.canLay0 (.str z) = true) : eqk k (.str z) := ⟨.str z, by simp [toPy], h, by simp [PyData.depth]⟩
theorem eqk_up {k l : Nat} {d : D} (h : eqk k d) (hl : k ≤ l) : eqk l d := by
  obtain ⟨p, h1, h2, h3⟩ := h
  exact ⟨p, h1, h2, Nat.le_trans h3 hl⟩
theorem eqk_tup {k : Nat} {v u : D} (h : eqk k v) (h2 : eqk k u) : eqk (k + 1) (.tup [v, u]) := by
  obtain ⟨p, a1, a2, a3⟩ := h
  obtain ⟨q, b1, b2, b3⟩ := h2
  exact ⟨.tuple [p, q], by simp [toPy, toPyL, a1, b1], by simp [PyData.canLay0, PyData.canLayAll0, a2, b2], by simp [PyData.depth, PyData.depthAll]; omega⟩
theorem eqk_all {k : Nat} : ∀ {xs : List D}, (∀ x ∈ xs, eqk k x) → ∃ ps, toPyL xs = some ps ∧ PyData.canLayAll0 ps = true ∧ PyData.depthAll ps ≤ k
  | [], _ => ⟨[], by simp [toPyL], by simp [PyData.canLayAll0], by simp [PyData.depthAll]⟩
  | x :: xs, h => by
    obtain ⟨p, a1, a2, a3⟩ := h x (by simp)
    obtain ⟨ps, b1, b2, b3⟩ := eqk_all (xs := xs) fun y hy => h y (by simp [hy])
    exact ⟨p :: ps, by simp [toPyL, a1, b1], by simp [PyData.canLayAll0, a2, b2], by simp [PyData.depthAll]; omega⟩
theorem eqk_lst {k : Nat} {xs : List D} (h : ∀ x ∈ xs, eqk k x) : eqk (k + 1) (.lst xs) := by
  obtain ⟨ps, b1, b2, b3⟩ := eqk_all h
  exact ⟨.list ps, by simp [toPy, b1], by simpa [PyData.canLay0] using b2, by simp [PyData.depth]; omega⟩
theorem eqO_self {xs : List D} {k : Nat} (h : eqk k (.lst xs)) (hk : k ≤ 60) : eqO (.lst xs) (.lst xs) = some true := by
  obtain ⟨p, h1, h2, h3⟩ := h
  have e : eqO (.lst xs) (.lst xs) = eqPy (.lst xs) (.lst xs) := by simp [eqO]
  rw [e]
  unfold eqPy
  rw [h1]
  have hs : SeqAt.shaped p = true := by
    simp [SeqAt.shaped, h2]
    omega
  simp [hs, SeqAt.eqv_refl p h2]
theorem eqk_bl (k : Nat) (b : Bool) : eqk k (.bl b) := ⟨.bool b, by simp [toPy], rfl, by simp [PyData.depth]⟩
theorem eqk_tupL {k : Nat} {xs : List D} (h : ∀ x ∈ xs, eqk k x) : eqk (k + 1) (.tup xs) := by
  obtain ⟨ps, b1, b2, b3⟩ := eqk_all h
  exact ⟨.tuple ps, by simp [toPy, b1], by simpa [PyData.canLay0] using b2, by simp [PyData.depth]; omega⟩
theorem eqO_nil {k : Nat} {xs : List D} (h : eqk k (.lst xs)) (hk : k ≤ 60) : eqO (.lst xs) (.lst []) = some (decide (xs = [])) := by
  obtain ⟨p, h1, h2, h3⟩ := h
  have e : eqO (.lst xs) (.lst []) = eqPy (.lst xs) (.lst []) := by simp [eqO]
  rw [e]
  unfold eqPy
  rw [h1]
  have hs : SeqAt.shaped p = true := by
    simp [SeqAt.shaped, h2]
    omega
  have hn : toPy (.lst []) = some (.list []) := by simp [toPy, toPyL]
  have hs2 : SeqAt.shaped (.list []) = true := by simp [SeqAt.shaped, PyData.canLay0, PyData.canLayAll0, PyData.depth, PyData.depthAll]
  rw [hn]
  simp only [hs, hs2, Bool.and_self, if_true]
  simp only [toPy] at h1
  cases xs with
  | nil =>
    simp [toPyL] at h1
    subst h1
    simp [PyData.eqv, PyData.eqvAll]
  | cons x xs =>
    simp only [toPyL] at h1
    cases hx : toPy x with
    | none => rw [hx] at h1; simp at h1
    | some q =>
      cases hy : toPyL xs with
      | none => rw [hx, hy] at h1; simp at h1
      | some qs =>
        rw [hx, hy] at h1
        simp at h1
        subst h1
        simp [PyData.eqv, PyData.eqvAll]
theorem eq_nil {k : Nat} {xs : List D} (h : eqk k (.lst xs)) (hk : k ≤ 60) : gEq (.lst xs) (.lst []) = some (.bl (decide (xs = []))) := by simp [gEq, eqO_nil h hk]
theorem lcD_filterL {α : Type} {p : Pt} {c : T} {e : E} {δ : Sl} (g : α → D) (q : α → Bool) : ∀ l : List α, (∀ a ∈ l, ∃ δ1, bindP p (g a) δ = some δ1 ∧ c δ1 = .ok (q a) ∧ e δ1 = .ok (g a)) → lcD p c e δ (l.map g) = .ok ((l.filter q).map g)
  | [], _ => rfl
  | x :: l, h => by
    obtain ⟨δ1, e1, e2, e3⟩ := h x (by simp)
    have ih := lcD_filterL g q l fun k hk => h k (by simp [hk])
    cases hq : q x
    · rw [hq] at e2
      simp only [List.map_cons, lcD, e1, e2, ih, List.filter_cons, hq, Bool.false_eq_true, if_false]
    · rw [hq] at e2
      simp only [List.map_cons, lcD, e1, e2, e3, ih, List.filter_cons, hq, if_true]
end Law

namespace Law
open PySem L2 Fs MCh
/-! trees and their order -/
inductive Tn where
  | leaf (s : Nat)
  | node (a b : Tn)
  | many (ts : List Tn)
def bitsN (s : Nat) : Nat := Builtin.Int.intBits (s : Int)
mutual
def Tn.sz : Tn → Nat
  | .leaf s => 1 + bitsN s
  | .node a b => 1 + (a.sz + b.sz)
  | .many ts => 1 + szs ts
def szs : List Tn → Nat
  | [] => 0
  | t :: ts => 1 + t.sz + szs ts
end
mutual
def Tn.dp : Tn → Nat
  | .leaf s => 1
  | .node a b => 1 + max a.dp b.dp
  | .many ts => 1 + dps ts
def dps : List Tn → Nat
  | [] => 0
  | t :: ts => max t.dp (dps ts)
end
def sgn (i : Int) : Int := if 0 < i then 1 else if i < 0 then -1 else 0
mutual
def ord : Tn → Tn → Int
  | .leaf s, b => if (Tn.leaf s).sz ≠ b.sz then sgn ((Tn.leaf s).sz - b.sz) else
    match b with
    | .leaf t => sgn (s - t)
    | .node _ _ => -1
    | .many _ => -1
  | .node a1 a2, b => if (Tn.node a1 a2).sz ≠ b.sz then sgn ((Tn.node a1 a2).sz - b.sz) else
    match b with
    | .leaf _ => 1
    | .node b1 b2 => if ord a1 b1 ≠ 0 then ord a1 b1 else ord a2 b2
    | .many _ => -1
  | .many ts, b => if (Tn.many ts).sz ≠ b.sz then sgn ((Tn.many ts).sz - b.sz) else
    match b with
    | .leaf _ => 1
    | .node _ _ => 1
    | .many us => ords ts us
def ords : List Tn → List Tn → Int
  | [], _ => 0
  | _ :: _, [] => 0
  | t :: ts, u :: us => if ord t u ≠ 0 then ord t u else ords ts us
end
mutual
def Tn.key : Tn → List Int
  | .leaf s => [((Tn.leaf s).sz : Nat), 0, s]
  | .node a b => ((Tn.node a b).sz : Nat) :: 1 :: (a.key ++ b.key)
  | .many ts => ((Tn.many ts).sz : Nat) :: 2 :: keys ts
def keys : List Tn → List Int
  | [] => []
  | t :: ts => t.key ++ keys ts
end
def lx : List Int → List Int → Int
  | [], [] => 0
  | [], _ :: _ => -1
  | _ :: _, [] => 1
  | x :: xs, y :: ys => if x ≠ y then sgn (x - y) else lx xs ys
theorem sgn_ne {x y : Int} (h : x ≠ y) : sgn (x - y) ≠ 0 := by
  unfold sgn
  split
  · decide
  · split
    · decide
    · omega
theorem sgn_0 : sgn 0 = 0 := rfl
theorem sgn_eq {x y : Int} (h : sgn (x - y) = 0) : x = y := by
  rcases Decidable.em (x = y) with h2 | h2
  · exact h2
  · exact absurd h (sgn_ne h2)
theorem ord_sz {a b : Tn} (h : ord a b = 0) : a.sz = b.sz := by
  rcases Nat.decEq a.sz b.sz with h2 | h2
  · exfalso
    have h3 : (a.sz : Int) ≠ (b.sz : Int) := by omega
    have h4 : ord a b = sgn ((a.sz : Int) - (b.sz : Int)) := by
      cases a <;> (simp only [ord]; rw [if_pos h2])
    rw [h4] at h
    exact sgn_ne h3 h
  · exact h2
theorem ord_ne {a b : Tn} (h2 : a.sz ≠ b.sz) : ord a b = sgn ((a.sz : Int) - (b.sz : Int)) := by
  cases a <;> (simp only [ord]; rw [if_pos h2])
mutual
theorem lx_ord : ∀ (a b : Tn) (p q : List Int), lx (a.key ++ p) (b.key ++ q) = if ord a b ≠ 0 then ord a b else lx p q := by
  intro a b p q
  by_cases hs : a.sz = b.sz
  · have hs' : (a.sz : Int) = (b.sz : Int) := by omega
    match a, b, hs, hs' with
    | .leaf s, .leaf t, hs, hs' =>
      simp only [Tn.key, ord, List.cons_append, List.nil_append, lx, if_neg (not_not_intro hs'), if_neg (not_not_intro hs)]
      by_cases h : (s : Int) = t
      · simp [h, sgn_0]
      · simp [h, sgn_ne h]
    | .leaf s, .node b1 b2, hs, hs' =>
      simp only [Tn.key, ord, List.cons_append, List.nil_append, lx, if_neg (not_not_intro hs'), if_neg (not_not_intro hs)]
      simp [sgn]
    | .leaf s, .many us, hs, hs' =>
      simp only [Tn.key, ord, List.cons_append, List.nil_append, lx, if_neg (not_not_intro hs'), if_neg (not_not_intro hs)]
      simp [sgn]
    | .node a1 a2, .leaf t, hs, hs' =>
      simp only [Tn.key, ord, List.cons_append, List.nil_append, lx, if_neg (not_not_intro hs'), if_neg (not_not_intro hs)]
      simp [sgn]
    | .node a1 a2, .node b1 b2, hs, hs' =>
      have i1 := lx_ord a1 b1 (a2.key ++ p) (b2.key ++ q)
      have i2 := lx_ord a2 b2 p q
      simp only [Tn.key, ord, List.cons_append, List.nil_append, lx, if_neg (not_not_intro hs'), if_neg (not_not_intro hs), List.append_assoc, i1, i2]
      by_cases h : ord a1 b1 = 0
      · simp [h]
      · simp [h]
    | .node a1 a2, .many us, hs, hs' =>
      simp only [Tn.key, ord, List.cons_append, List.nil_append, lx, if_neg (not_not_intro hs'), if_neg (not_not_intro hs)]
      simp [sgn]
    | .many ts, .leaf t, hs, hs' =>
      simp only [Tn.key, ord, List.cons_append, List.nil_append, lx, if_neg (not_not_intro hs'), if_neg (not_not_intro hs)]
      simp [sgn]
    | .many ts, .node b1 b2, hs, hs' =>
      simp only [Tn.key, ord, List.cons_append, List.nil_append, lx, if_neg (not_not_intro hs'), if_neg (not_not_intro hs)]
      simp [sgn]
    | .many ts, .many us, hs, hs' =>
      have i1 := lx_ords ts us p q (by simp only [Tn.sz] at hs; omega)
      simp only [Tn.key, ord, List.cons_append, List.nil_append, lx, if_neg (not_not_intro hs'), if_neg (not_not_intro hs), i1]
      simp
  · have hs' : (a.sz : Int) ≠ (b.sz : Int) := by omega
    have h1 : ∀ (t : Tn) (r : List Int), ∃ r', t.key ++ r = (t.sz : Int) :: r' := by
      intro t r
      cases t <;> exact ⟨_, by simp [Tn.key]; rfl⟩
    obtain ⟨p', e1⟩ := h1 a p
    obtain ⟨q', e2⟩ := h1 b q
    rw [e1, e2, ord_ne hs]
    simp [lx, hs', sgn_ne hs']
theorem lx_ords : ∀ (as bs : List Tn) (p q : List Int), szs as = szs bs → lx (keys as ++ p) (keys bs ++ q) = if ords as bs ≠ 0 then ords as bs else lx p q := by
  intro as bs p q hs
  match as, bs, hs with
  | [], [], _ => simp [keys, ords]
  | [], b :: bs, hs => simp only [szs] at hs; omega
  | a :: as, [], hs => simp only [szs] at hs; omega
  | a :: as, b :: bs, hs =>
    have i1 := lx_ord a b (keys as ++ p) (keys bs ++ q)
    simp only [keys, List.append_assoc, i1, ords]
    by_cases h : ord a b = 0
    · have i2 := lx_ords as bs p q (by have := ord_sz h; simp only [szs] at hs; omega)
      simp [h, i2]
    · simp [h]
end
theorem ord_lx (a b : Tn) : ord a b = lx a.key b.key := by
  have := lx_ord a b [] []
  simp only [List.append_nil, lx] at this
  rw [this]
  split
  · rfl
  · omega
theorem lx_anti : ∀ x y : List Int, lx x y = - lx y x
  | [], [] => rfl
  | [], _ :: _ => rfl
  | _ :: _, [] => rfl
  | x :: xs, y :: ys => by
    simp only [lx]
    by_cases h : x = y
    · subst h
      simp [lx_anti xs ys]
    · rw [if_pos h, if_pos fun e => h e.symm]
      unfold sgn
      repeat' split
      all_goals omega
theorem lx_three : ∀ x y : List Int, lx x y = -1 ∨ lx x y = 0 ∨ lx x y = 1
  | [], [] => by simp [lx]
  | [], _ :: _ => by simp [lx]
  | _ :: _, [] => by simp [lx]
  | x :: xs, y :: ys => by
    simp only [lx]
    by_cases h : x = y
    · simp [h, lx_three xs ys]
    · rw [if_pos h]
      unfold sgn
      repeat' split
      all_goals omega
theorem lx_trans : ∀ x y z : List Int, lx x y ≤ 0 → lx y z ≤ 0 → lx x z ≤ 0
  | [], _, [], _, _ => by simp [lx]
  | [], _, _ :: _, _, _ => by simp [lx]
  | _ :: _, [], _, h, _ => by simp [lx] at h
  | _ :: _, _ :: _, [], _, h => by simp [lx] at h
  | x :: xs, y :: ys, z :: zs, h1, h2 => by
    have ih := lx_trans xs ys zs
    simp only [lx] at h1 h2 ⊢
    by_cases e1 : x = y <;> by_cases e2 : y = z
    · subst e1; subst e2; simp at h1 h2 ⊢; exact ih h1 h2
    · subst e1; rw [if_pos e2] at h2 ⊢; exact h2
    · subst e2; rw [if_pos e1] at h1 ⊢; exact h1
    · rw [if_pos e1] at h1
      rw [if_pos e2] at h2
      have h3 : x < y := by unfold sgn at h1; split at h1 <;> omega
      have h4 : y < z := by unfold sgn at h2; split at h2 <;> omega
      rw [if_pos (by omega)]
      unfold sgn
      rw [if_neg (by omega)]
      split <;> omega
mutual
theorem ord_zero : ∀ a b : Tn, ord a b = 0 → a = b := by
  intro a b h
  have hs := ord_sz h
  match a, b, hs, h with
  | .leaf s, .leaf t, hs, h =>
    simp only [ord, if_neg (not_not_intro hs)] at h
    have := sgn_eq h
    congr 1
    omega
  | .leaf s, .node b1 b2, hs, h => simp only [ord, if_neg (not_not_intro hs)] at h; omega
  | .leaf s, .many us, hs, h => simp only [ord, if_neg (not_not_intro hs)] at h; omega
  | .node a1 a2, .leaf t, hs, h => simp only [ord, if_neg (not_not_intro hs)] at h; omega
  | .node a1 a2, .node b1 b2, hs, h =>
    simp only [ord, if_neg (not_not_intro hs)] at h
    by_cases h1 : ord a1 b1 = 0
    · rw [if_neg (not_not_intro h1)] at h
      rw [ord_zero a1 b1 h1, ord_zero a2 b2 h]
    · rw [if_pos h1] at h
      exact absurd h h1
  | .node a1 a2, .many us, hs, h => simp only [ord, if_neg (not_not_intro hs)] at h; omega
  | .many ts, .leaf t, hs, h => simp only [ord, if_neg (not_not_intro hs)] at h; omega
  | .many ts, .node b1 b2, hs, h => simp only [ord, if_neg (not_not_intro hs)] at h; omega
  | .many ts, .many us, hs, h =>
    simp only [ord, if_neg (not_not_intro hs)] at h
    simp only [Tn.sz] at hs
    rw [ords_zero ts us (by omega) h]
theorem ords_zero : ∀ as bs : List Tn, szs as = szs bs → ords as bs = 0 → as = bs := by
  intro as bs hs h
  match as, bs, hs, h with
  | [], [], _, _ => rfl
  | [], b :: bs, hs, _ => simp only [szs] at hs; omega
  | a :: as, [], hs, _ => simp only [szs] at hs; omega
  | a :: as, b :: bs, hs, h =>
    simp only [ords] at h
    by_cases h1 : ord a b = 0
    · rw [if_neg (not_not_intro h1)] at h
      rw [ord_zero a b h1, ords_zero as bs (by have := ord_sz h1; simp only [szs] at hs; omega) h]
    · rw [if_pos h1] at h
      exact absurd h h1
end
theorem lx_self : ∀ x : List Int, lx x x = 0
  | [] => rfl
  | x :: xs => by simp [lx, lx_self xs]
theorem ord_self (a : Tn) : ord a a = 0 := by rw [ord_lx, lx_self]
theorem ord_anti (a b : Tn) : ord a b = - ord b a := by rw [ord_lx, ord_lx, lx_anti]
theorem ord_three (a b : Tn) : ord a b = -1 ∨ ord a b = 0 ∨ ord a b = 1 := by rw [ord_lx]; exact lx_three _ _
theorem ord_trans (a b c : Tn) (h1 : ord a b ≤ 0) (h2 : ord b c ≤ 0) : ord a c ≤ 0 := by
  rw [ord_lx] at h1 h2 ⊢
  exact lx_trans _ _ _ h1 h2
theorem ord_iff (a b : Tn) : (ord a b = 0) ↔ a = b := ⟨ord_zero a b, fun h => by rw [h]; exact ord_self b⟩
theorem dps_mem : ∀ {ts : List Tn} {t : Tn}, t ∈ ts → t.dp ≤ dps ts
  | u :: us, t, h => by
    simp only [dps]
    rcases List.mem_cons.mp h with rfl | h
    · omega
    · have := dps_mem h
      omega
theorem dp_pos (t : Tn) : 1 ≤ t.dp := by cases t <;> simp only [Tn.dp] <;> omega
theorem szs_sum : ∀ ts : List Tn, (szs ts : Int) = (ts.map fun t => 1 + ((t.sz : Nat) : Int)).sum
  | [] => rfl
  | t :: ts => by
    have := szs_sum ts
    simp only [szs, List.map_cons, List.sum_cons]
    omega
end Law

namespace Law
open PySem L2 Fs MCh
@[simp] theorem ne_text_whole : (Str.ofString "text" = Str.ofString "whole") = False := eq_false (by decide +kernel)
@[simp] theorem ne_text_row : (Str.ofString "text" = Str.ofString "row") = False := eq_false (by decide +kernel)
@[simp] theorem ne_text_pick : (Str.ofString "text" = Str.ofString "pick") = False := eq_false (by decide +kernel)
@[simp] theorem ne_text_use : (Str.ofString "text" = Str.ofString "use") = False := eq_false (by decide +kernel)
@[simp] theorem ne_text_rising : (Str.ofString "text" = Str.ofString "rising") = False := eq_false (by decide +kernel)
@[simp] theorem ne_text_unlike : (Str.ofString "text" = Str.ofString "unlike") = False := eq_false (by decide +kernel)
@[simp] theorem ne_text_alike : (Str.ofString "text" = Str.ofString "alike") = False := eq_false (by decide +kernel)
@[simp] theorem ne_row_whole : (Str.ofString "row" = Str.ofString "whole") = False := eq_false (by decide +kernel)
@[simp] theorem ne_row_text : (Str.ofString "row" = Str.ofString "text") = False := eq_false (by decide +kernel)
@[simp] theorem ne_row_pick : (Str.ofString "row" = Str.ofString "pick") = False := eq_false (by decide +kernel)
@[simp] theorem ne_row_use : (Str.ofString "row" = Str.ofString "use") = False := eq_false (by decide +kernel)
@[simp] theorem ne_row_rising : (Str.ofString "row" = Str.ofString "rising") = False := eq_false (by decide +kernel)
@[simp] theorem ne_row_unlike : (Str.ofString "row" = Str.ofString "unlike") = False := eq_false (by decide +kernel)
@[simp] theorem ne_row_alike : (Str.ofString "row" = Str.ofString "alike") = False := eq_false (by decide +kernel)
@[simp] theorem ne_many_whole : (Str.ofString "many" = Str.ofString "whole") = False := eq_false (by decide +kernel)
@[simp] theorem ne_many_text : (Str.ofString "many" = Str.ofString "text") = False := eq_false (by decide +kernel)
@[simp] theorem ne_many_row : (Str.ofString "many" = Str.ofString "row") = False := eq_false (by decide +kernel)
@[simp] theorem ne_many_pick : (Str.ofString "many" = Str.ofString "pick") = False := eq_false (by decide +kernel)
@[simp] theorem ne_many_use : (Str.ofString "many" = Str.ofString "use") = False := eq_false (by decide +kernel)
@[simp] theorem ne_many_rising : (Str.ofString "many" = Str.ofString "rising") = False := eq_false (by decide +kernel)
@[simp] theorem ne_many_unlike : (Str.ofString "many" = Str.ofString "unlike") = False := eq_false (by decide +kernel)
@[simp] theorem ne_many_alike : (Str.ofString "many" = Str.ofString "alike") = False := eq_false (by decide +kernel)
@[simp] theorem ne_pick_whole : (Str.ofString "pick" = Str.ofString "whole") = False := eq_false (by decide +kernel)
@[simp] theorem ne_pick_text : (Str.ofString "pick" = Str.ofString "text") = False := eq_false (by decide +kernel)
@[simp] theorem ne_pick_row : (Str.ofString "pick" = Str.ofString "row") = False := eq_false (by decide +kernel)
@[simp] theorem ne_pick_use : (Str.ofString "pick" = Str.ofString "use") = False := eq_false (by decide +kernel)
@[simp] theorem ne_pick_rising : (Str.ofString "pick" = Str.ofString "rising") = False := eq_false (by decide +kernel)
@[simp] theorem ne_pick_unlike : (Str.ofString "pick" = Str.ofString "unlike") = False := eq_false (by decide +kernel)
@[simp] theorem ne_pick_alike : (Str.ofString "pick" = Str.ofString "alike") = False := eq_false (by decide +kernel)
@[simp] theorem ne_use_whole : (Str.ofString "use" = Str.ofString "whole") = False := eq_false (by decide +kernel)
@[simp] theorem ne_use_text : (Str.ofString "use" = Str.ofString "text") = False := eq_false (by decide +kernel)
@[simp] theorem ne_use_row : (Str.ofString "use" = Str.ofString "row") = False := eq_false (by decide +kernel)
@[simp] theorem ne_use_pick : (Str.ofString "use" = Str.ofString "pick") = False := eq_false (by decide +kernel)
@[simp] theorem ne_use_rising : (Str.ofString "use" = Str.ofString "rising") = False := eq_false (by decide +kernel)
@[simp] theorem ne_use_unlike : (Str.ofString "use" = Str.ofString "unlike") = False := eq_false (by decide +kernel)
@[simp] theorem ne_use_alike : (Str.ofString "use" = Str.ofString "alike") = False := eq_false (by decide +kernel)
mutual
/-- data without functions, its texts short -/
def gd0 : D → Bool
  | .fn _ => false
  | .str z => decide (z.cps.toList.length ≤ 1000)
  | .tup xs => gds xs
  | .lst xs => gds xs
  | _ => true
def gds : List D → Bool
  | [] => true
  | d :: ds => gd0 d && gds ds
end
theorem gds_mem : ∀ {xs : List D} {x : D}, gds xs = true → x ∈ xs → gd0 x = true
  | [], x, _, h => by simp at h
  | y :: ys, x, h, hx => by
    simp only [gds, Bool.and_eq_true] at h
    rcases List.mem_cons.mp hx with rfl | hx
    · exact h.1
    · exact gds_mem h.2 hx
theorem gds_of : ∀ {xs : List D}, (∀ x ∈ xs, gd0 x = true) → gds xs = true
  | [], _ => by simp [gds]
  | y :: ys, h => by
    simp only [gds, Bool.and_eq_true]
    exact ⟨h y (by simp), gds_of fun x hx => h x (by simp [hx])⟩
def shW (lo hi : Int) : D := .tup [.str (Str.ofString "whole"), .int lo, .int hi]
def shT (s : Str) : D := .tup [.str (Str.ofString "text"), .str s]
def shR (p q : D) : D := .tup [.str (Str.ofString "row"), .tup [p, q]]
def shM (p : D) : D := .tup [.str (Str.ofString "many"), p]
def shU (x : Str) : D := .tup [.str (Str.ofString "use"), .str x]
def shP (bs : List D) : D := .tup [.str (Str.ofString "pick"), .tup bs]
def okW (lo hi : Int) : D → Bool
  | .int i => decide (lo ≤ i) && decide (i ≤ hi)
  | _ => false
def okT (s : Str) : D → Bool
  | .str z => z.cps.toList.all fun c => decide (c ∈ s.cps.toList)
  | _ => false
theorem fits_W (n : Nat) (b d : D) (lo hi : Int) (h : gd0 d = true) : S_fits (n + 1) [b, shW lo hi, d] = .ok (.bl (okW lo hi d)) := by
  show U_fits _ _ _ _ _ = _
  apply runD_rt
  cases d with
  | fn a => simp [gd0] at h
  | int i =>
    by_cases h1 : lo ≤ i <;> by_cases h2 : i ≤ hi <;> simp [shW, okW, h1, h2]
  | _ => simp [shW, okW]
theorem fits_W2 (n : Nat) (b d : D) (lo hi : Int) (h : ∀ a, d ≠ .fn a) : S_fits (n + 1) [b, shW lo hi, d] = .ok (.bl (okW lo hi d)) := by
  show U_fits _ _ _ _ _ = _
  apply runD_rt
  cases d with
  | fn a => exact absurd rfl (h a)
  | int i =>
    by_cases h1 : lo ≤ i <;> by_cases h2 : i ≤ hi <;> simp [shW, okW, h1, h2]
  | _ => simp [shW, okW]
theorem blsOf_map {α : Type} (f : α → Bool) : ∀ l : List α, blsOf (l.map fun c => D.bl (f c)) = some (l.map f)
  | [] => rfl
  | x :: l => by simp [blsOf, blsOf_map f l]
theorem intsOf_map {α : Type} (f : α → Int) : ∀ l : List α, intsOf (l.map fun c => D.int (f c)) = some (l.map f)
  | [] => rfl
  | x :: l => by simp [intsOf, intsOf_map f l]
theorem fits_T (n : Nat) (b d : D) (s : Str) (h : gd0 d = true) : S_fits (n + 1) [b, shT s, d] = .ok (.bl (okT s d)) := by
  show U_fits _ _ _ _ _ = _
  apply runD_rt
  cases d with
  | fn a => simp [gd0] at h
  | str z =>
    have z1 : ∀ y : Fs.Slot, lcD (.nm 3) tTrue (eBin gIn (eV 3) (eBin gIx (eV 1) (eC (.int 1)))) [.v b, .v (shT s), .v (.str z), y] (signs z) = .ok (z.cps.toList.map fun c => D.bl (decide (c ∈ s.cps.toList))) := by
      intro y
      unfold signs
      rw [lcD_mapL (f := fun c => D.bl (decide (c ∈ s.cps.toList)))]
      intro c hc
      exact ⟨_, by simp; rfl, by simp, by simp [shT, gIn]⟩
    have hl : z.cps.toList.length ≤ 1000 := by simpa [gd0] using h
    have hl2 : z.cps.toList.length ≤ sizeLine := small_line (by omega)
    have hl3 : z.cps.size ≤ sizeLine := by simpa using hl2
    simp only [shT] at z1
    simp [shT, okT, wipeD, z1, hl3, gAll, blsOf_map]
  | _ => simp [shT, okT]
/-! sizes -/
theorem meas_W (n : Nat) (b : D) (lo hi i : Int) : S_measured (n + 1) [b, shW lo hi, .int i] = .ok (.int (Builtin.Int.intBits (i - lo) : Nat)) := by
  show U_measured _ _ = _
  apply runD_rt
  simp [shW]
theorem meas_T (n : Nat) (b : D) (s z : Str) (h : z.cps.toList.length ≤ 1000) : S_measured (n + 1) [b, shT s, .str z] = .ok (.int z.length) := by
  have hl : z.length ≤ sizeLine := by
    have : z.length = z.cps.toList.length := by simp [Str.length]
    rw [this]
    exact small_line (by omega)
  show U_measured _ _ = _
  apply runD_rt
  simp [shT, hl]
/-! picks -/
def pf (M : Nat → Str) (x : Str) : List Nat → Option Nat
  | [] => none
  | k :: l => if M k = x then some k else pf M x l
theorem pf_none {M : Nat → Str} {x : Str} : ∀ {l : List Nat}, (∀ k ∈ l, M k ≠ x) → pf M x l = none
  | [], _ => rfl
  | k :: l, h => by
    simp only [pf, if_neg (h k (by simp))]
    exact pf_none fun j hj => h j (by simp [hj])
theorem pf_some {M : Nat → Str} {j : Nat} : ∀ {l : List Nat}, j ∈ l → (∀ k ∈ l, M k = M j → k = j) → pf M (M j) l = some j
  | k :: l, h, hi => by
    by_cases hk : M k = M j
    · have := hi k (by simp) hk
      subst this
      simp [pf]
    · simp only [pf, if_neg hk]
      rcases List.mem_cons.mp h with rfl | h
      · exact absurd rfl hk
      · exact pf_some h fun i hi' => hi i (by simp [hi'])
def brs (M : Nat → Str) (sh : Nat → D) (n : Nat) : List D := (List.range n).map fun k => .tup [.str (M k), sh k]
theorem place_loop (M : Nat → Str) (sh : Nat → D) (A : D) (x : Str) : ∀ (l : List Nat) (y2 y3 : Fs.Slot), ∃ z2 z3, forD (.tp [.nm 2, .nm 3]) L_place_of_0 (l.map fun (k : Nat) => D.tup [.int (k : Int), .tup [.str (M k), sh k]]) [.v A, .v (.str x), y2, y3]
    = match pf M x l with | some k => .rt (.int (k : Nat)) | none => .nx [.v A, .v (.str x), z2, z3]
  | [], y2, y3 => ⟨y2, y3, rfl⟩
  | k :: l, y2, y3 => by
    have eb : bindP (.tp [.nm 2, .nm 3]) (.tup [.int (k : Int), .tup [.str (M k), sh k]]) [.v A, .v (.str x), y2, y3] = some [.v A, .v (.str x), .v (.int k), .v (.tup [.str (M k), sh k])] := by simp
    by_cases h : M k = x
    · refine ⟨y2, y3, ?_⟩
      have e2 : L_place_of_0 [.v A, .v (.str x), .v (.int k), .v (.tup [.str (M k), sh k])] = .rt (.int (k : Nat)) := by simp [L_place_of_0, h]
      rw [List.map_cons, forD, eb]
      simp only [e2, pf]
      rw [if_pos h]
    · obtain ⟨z2, z3, ih⟩ := place_loop M sh A x l (.v (.int k)) (.v (.tup [.str (M k), sh k]))
      refine ⟨z2, z3, ?_⟩
      have e2 : L_place_of_0 [.v A, .v (.str x), .v (.int k), .v (.tup [.str (M k), sh k])] = .nx [.v A, .v (.str x), .v (.int k), .v (.tup [.str (M k), sh k])] := by simp [L_place_of_0, h]
      rw [List.map_cons, forD, eb]
      simp only [e2, pf, h, if_false, ih]
theorem brs_at (M : Nat → Str) (sh : Nat → D) {n k : Nat} (h : k < n) : atI (brs M sh n) (k : Int) = some (.tup [.str (M k), sh k]) := by
  rw [atI_ofNat _ (by simpa [brs] using h)]
  simp [brs]
theorem brs_enum (M : Nat → Str) (sh : Nat → D) (n : Nat) : enumD (brs M sh n) = (List.range n).map fun (k : Nat) => D.tup [.int (k : Int), .tup [.str (M k), sh k]] := by
  apply List.ext_getElem
  · simp [enumD, brs]
  · intro i h1 h2
    simp [enumD, brs]
theorem place_val (M : Nat → Str) (sh : Nat → D) (n : Nat) (x : Str) : S_place_of [.tup (brs M sh n), .str x] = .ok (.int (match pf M x (List.range n) with | some k => (k : Int) | none => -1)) := by
  obtain ⟨z2, z3, e⟩ := place_loop M sh (.tup (brs M sh n)) x (List.range n) .un .un
  cases hp : pf M x (List.range n) with
  | some k =>
    rw [hp] at e
    apply runD_rt
    simp at e
    simp [brs_enum, e]
  | none =>
    rw [hp] at e
    apply runD_rt
    simp at e
    simp [brs_enum, e]
/-! names -/
theorem str_len (z : Str) : z.length = z.cps.toList.length := by simp [Str.length]
theorem cutS_L (z : Str) (lo hi : Option Int) : (cutS z lo hi).cps.toList = cutL z.cps.toList lo hi := by simp [cutS, cutL, Str.length]
theorem app_L (x y : Str) : (x ++ y).cps.toList = x.cps.toList ++ y.cps.toList := by rw [PySem.Str.cps_append, Array.toList_append]
def abc : Str := Str.ofString "abcdefghijklmnopqrstuvwxyz"
theorem abc_at : ∀ i : Nat, i < 26 → abc.cps.toList[i]? = some (97 + i) := by decide +kernel
theorem abc_len : abc.cps.toList.length = 26 := by decide +kernel
def chN (a : Int) (k : Nat) (j : Nat) : Nat := 97 + ((a / (64 * ((j : Int) + 1)) + (j : Int) * (j : Int) + (if (j : Int) = a / 8 % (1 + a % 8) then (k : Int) else 0)) % 26).toNat
def nm (a : Int) (k : Nat) : Str := ⟨((List.range (1 + a % 8).toNat).map (chN a k)).toArray⟩
theorem nm_L (a : Int) (k : Nat) : (nm a k).cps.toList = (List.range (1 + a % 8).toNat).map (chN a k) := by simp [nm]
theorem nm_inj {a : Int} {k l : Nat} (hk : k < 26) (hl : l < 26) (h : nm a k = nm a l) : k = l := by
  have h1 : (List.range (1 + a % 8).toNat).map (chN a k) = (List.range (1 + a % 8).toNat).map (chN a l) := by rw [← nm_L, ← nm_L, h]
  obtain ⟨n, hn⟩ : ∃ n : Nat, 1 + a % 8 = (n : Int) := ⟨(1 + a % 8).toNat, by omega⟩
  have g1 := Int.emod_nonneg (a / 8) (show (n : Int) ≠ 0 by omega)
  have g2 := Int.emod_lt_of_pos (a / 8) (show (0 : Int) < (n : Int) by omega)
  obtain ⟨t, ht⟩ : ∃ t : Nat, a / 8 % (n : Int) = (t : Int) := ⟨(a / 8 % (n : Int)).toNat, by omega⟩
  have htn : t < (1 + a % 8).toNat := by omega
  have h2 := congrArg (fun l => l[t]?) h1
  simp [htn] at h2
  unfold chN at h2
  rw [hn, ht, if_pos rfl, if_pos rfl] at h2
  omega
theorem nm_lay (a : Int) (k : Nat) : PyData.canLay0 (.str (nm a k)) = true := by
  simp only [PyData.canLay0, PyData.strOk]
  rw [← Array.all_toList, nm_L]
  simp only [List.all_eq_true, decide_eq_true_eq]
  intro c hc
  obtain ⟨j, _, rfl⟩ := List.mem_map.mp hc
  unfold chN
  omega
theorem nm_ne (a : Int) (k : Nat) : nm a k ≠ Str.ofString "" := by
  intro h
  have h1 := nm_L a k
  rw [h, show (Str.ofString "").cps.toList = [] by decide] at h1
  have h2 := congrArg List.length h1
  simp at h2
  omega
theorem name_val (a : Int) (k : Nat) (hk : k ≤ 20) : S_l_name [.int a, .int (k : Int)] = .ok (.str (nm a k)) := by
  obtain ⟨n, hn⟩ : ∃ n : Nat, 1 + a % 8 = (n : Int) := ⟨(1 + a % 8).toNat, by omega⟩
  have hn0 : (0 : Int) < (n : Int) := by omega
  have hn0' : 0 < n := by omega
  obtain ⟨t, ht⟩ : ∃ t, a / 8 % (n : Int) = t := ⟨_, rfl⟩
  have hal : abc.length ≤ sizeLine := by rw [str_len, abc_len]; exact small_line (by decide)
  obtain ⟨δ', e, z, y6, y7, z1, rfl⟩ := forR (p := .nm 6) (body := L_l_name_0) (lo := 0) (n := n) (δ := [.v (.int a), .v (.int k), .v (.str abc), .v (.int n), .v (.int t), .v (.str (Str.ofString "")), .un, .un])
    (fun i δ => ∃ (z : Str) (y6 y7 : Fs.Slot), z.cps.toList = (List.range i).map (chN a k) ∧ δ = [.v (.int a), .v (.int k), .v (.str abc), .v (.int n), .v (.int t), .v (.str z), y6, y7])
    ⟨Str.ofString "", .un, .un, (show (Str.ofString "").cps.toList = [] by decide), rfl⟩
    (fun i δ hi => by
      rintro ⟨z, y6, y7, z1, rfl⟩
      have hdv : divOk (64 * ((i : Int) + 1)) := divOk_small (by omega) (by omega)
      have hm1 : IntMulOk 64 ((i : Int) + 1) := mul_fitsL (by decide)
      have hm2 : IntMulOk (i : Int) (i : Int) := mul_fitsL (by omega)
      obtain ⟨q, hq⟩ : ∃ q, a / (64 * ((i : Int) + 1)) + (i : Int) * (i : Int) = q := ⟨_, rfl⟩
      obtain ⟨r, hr⟩ : ∃ r, (if (i : Int) = t then q + (k : Int) else q) = r := ⟨_, rfl⟩
      obtain ⟨j, hj⟩ : ∃ j : Nat, r % 26 = (j : Int) := ⟨(r % 26).toNat, by omega⟩
      have hj2 : j < 26 := by omega
      have hat : atI abc.cps.toList (j : Int) = some (97 + j) := by
        have hl : j < abc.cps.toList.length := by rw [abc_len]; exact hj2
        have h1 := atI_ofNat abc.cps.toList hl
        have h2 := abc_at j hj2
        rw [List.getElem?_eq_getElem hl] at h2
        rw [h1, Option.some.inj h2]
      have hch : chN a k i = 97 + j := by
        unfold chN
        rw [hn, ht, hq]
        by_cases h : (i : Int) = t
        · rw [if_pos h] at hr ⊢
          rw [hr, hj]
          omega
        · rw [if_neg h] at hr ⊢
          rw [Int.add_zero, hr, hj]
          omega
      have hzl : z.cps.toList.length = i := by rw [z1]; simp
      have oL : (⟨#[97 + j]⟩ : Str).cps.toList = [97 + j] := rfl
      have l1 : z.length + (⟨#[97 + j]⟩ : Str).length ≤ sizeLine := by
        rw [str_len, str_len, hzl, oL]
        exact small_line (by have : ([97 + j] : List Nat).length = 1 := rfl; omega)
      refine ⟨_, by simp; rfl, [.v (.int a), .v (.int k), .v (.str abc), .v (.int n), .v (.int t), .v (.str (z ++ ⟨#[97 + j]⟩)), .v (.int i), .v (.int r)], ?_, z ++ ⟨#[97 + j]⟩, .v (.int i), .v (.int r), ?_, rfl⟩
      · by_cases h : (i : Int) = t
        · rw [if_pos h] at hr
          simp [L_l_name_0, hdv, hm1, hm2, hq, eq_true h, hr, hj, hal, hat, l1]
        · rw [if_neg h] at hr
          subst hr
          simp [L_l_name_0, hdv, hm1, hm2, hq, h, hj, hal, hat, l1]
      · rw [app_L, z1, List.range_succ, List.map_append]
        simp [hch])
  have hz : z = nm a k := by
    have h1 := nm_L a k
    rw [hn, Int.toNat_natCast, ← z1] at h1
    cases z with
    | mk c =>
      cases hnm : nm a k with
      | mk c2 =>
        rw [hnm] at h1
        congr 1
        exact (Array.toList_inj.mp h1).symm
  subst hz
  simp only [abc] at e
  have hr : rngOk (n : Int) := rngOk_nat (by omega)
  apply runD_rt
  simp [hn, hn0, hn0', ht, hr, e]

/-! the book -/
def SHk (N0 : Str) (lo hi : Int) : Nat → D
  | 0 => shW lo hi
  | 1 => shR (shU N0) (shU N0)
  | _ => shM (shU N0)
def PK (N0 : Str) (M : Nat → Str) (lo hi : Int) : D := shP (brs M (SHk N0 lo hi) 3)
def BK (N0 : Str) (M : Nat → Str) (lo hi : Int) : D := .lst [.tup [.str N0, PK N0 M lo hi]]
section
variable {N0 : Str} {M : Nat → Str} {lo hi : Int}
theorem of0 : S_shape_of [BK N0 M lo hi, .str N0] = .ok (PK N0 M lo hi) := by
  apply runD_rt
  simp [BK, forD, L_shape_of_0]
theorem fU (m : Nat) (v : D) (x : Str) (sh : D) (g : Bool) (h : S_shape_of [BK N0 M lo hi, .str x] = .ok sh) (e : S_fits m [BK N0 M lo hi, sh, v] = .ok (.bl g)) : S_fits (m + 1) [BK N0 M lo hi, shU x, v] = .ok (.bl g) := by
  show U_fits _ _ _ _ _ = _
  apply runD_rt
  simp [shU, h, e]
theorem fP (m : Nat) (v : D) (k : Nat) (hk : k < 3) (hM : ∀ j, j < 3 → M j = M k → j = k) (g : Bool) (e : S_fits m [BK N0 M lo hi, SHk N0 lo hi k, v] = .ok (.bl g)) : S_fits (m + 2) [BK N0 M lo hi, PK N0 M lo hi, .tup [.str (M k), v]] = .ok (.bl g) := by
  have pl := place_val M (SHk N0 lo hi) 3 (M k)
  rw [pf_some (List.mem_range.mpr hk) fun j hj => hM j (List.mem_range.mp hj)] at pl
  have hk0 : (0 : Int) ≤ (k : Int) := by omega
  have key : S_fits_branch (m + 1) [BK N0 M lo hi, .tup (brs M (SHk N0 lo hi) 3), .tup [.str (M k), v]] = .ok (.bl g) := by
    show U_fits_branch _ _ _ _ _ = _
    apply runD_rt
    simp at pl
    simp [pl, hk0, brs_at M (SHk N0 lo hi) hk, e]
  show U_fits _ _ _ _ _ = _
  apply runD_rt
  simp [PK, shP, key]
  try (cases g <;> rfl)
theorem fR (m : Nat) (b p q x y : D) (f g : Bool) (e1 : S_fits m [b, p, x] = .ok (.bl f)) (e2 : S_fits m [b, q, y] = .ok (.bl g)) : S_fits (m + 2) [b, shR p q, .tup [x, y]] = .ok (.bl (f && g)) := by
  have key : S_fits_parts (m + 1) [b, .tup [p, q], .tup [x, y]] = .ok (.bl (f && g)) := by
    show U_fits_parts _ _ _ _ _ = _
    apply runD_rt
    cases f
    · simp [zipD, forD, L_fits_parts_0, e1]
    · cases g <;> simp [zipD, forD, L_fits_parts_0, e1, e2]
  show U_fits _ _ _ _ _ = _
  apply runD_rt
  simp [shR, key]
  try (cases f <;> cases g <;> rfl)
theorem many_loop (c1 c2 c3 c4 : List D → R D) (A B E : D) (p : D) (f : D → Bool) (hB : gIx B (.int 1) = some p) : ∀ (xs : List D) (y : Fs.Slot), (∀ x ∈ xs, c1 [A, p, x] = .ok (.bl (f x))) →
    ∃ z, forD (.nm 3) (L_fits_list_0 c1 c2 c3 c4) xs [.v A, .v B, .v E, y] = if xs.all f = true then .nx [.v A, .v B, .v E, z] else .rt (.bl false)
  | [], y, _ => ⟨y, by simp [forD]⟩
  | x :: xs, y, h => by
    have e := h x (by simp)
    cases hf : f x
    · rw [hf] at e
      exact ⟨y, by simp [forD, L_fits_list_0, hB, e, hf]⟩
    · rw [hf] at e
      obtain ⟨z, ih⟩ := many_loop c1 c2 c3 c4 A B E p f hB xs (.v x) fun a ha => h a (by simp [ha])
      refine ⟨z, ?_⟩
      have e2 : L_fits_list_0 c1 c2 c3 c4 [.v A, .v B, .v E, .v x] = .nx [.v A, .v B, .v E, .v x] := by simp [L_fits_list_0, hB, e]
      rw [forD]
      simp only [v_nm, List.set_cons_succ, List.set_cons_zero, e2, ih, List.all_cons, hf, Bool.true_and]
theorem fM (m : Nat) (b p : D) (f : D → Bool) (xs : List D) (h : ∀ x ∈ xs, S_fits m [b, p, x] = .ok (.bl (f x))) : S_fits (m + 2) [b, shM p, .lst xs] = .ok (.bl (xs.all f)) := by
  have key : S_fits_list (m + 1) [b, shM p, .lst xs] = .ok (.bl (xs.all f)) := by
    show U_fits_list _ _ _ _ _ = _
    obtain ⟨z, e⟩ := many_loop (S_fits m) (S_fits_branch m) (S_fits_list m) (S_fits_parts m) b (shM p) (.lst xs) p f (by simp [shM]) xs .un h
    apply runD_rt
    cases hf : xs.all f
    · rw [hf] at e
      simp at e
      simp [e]
    · rw [hf] at e
      simp at e
      simp [e]
      simp [shM]
  show U_fits _ _ _ _ _ = _
  apply runD_rt
  simp only [shM] at key
  simp [shM, key]
/-! sizes -/
theorem mU (m : Nat) (v : D) (x : Str) (sh : D) (k : Int) (h : S_shape_of [BK N0 M lo hi, .str x] = .ok sh) (e : S_measured m [BK N0 M lo hi, sh, v] = .ok (.int k)) : S_measured (m + 1) [BK N0 M lo hi, shU x, v] = .ok (.int (1 + k)) := by
  show U_measured _ _ = _
  apply runD_rt
  simp [shU, h, e]
theorem mP (m : Nat) (v : D) (k : Nat) (hk : k < 3) (hM : ∀ j, j < 3 → M j = M k → j = k) (s : Int) (e : S_measured m [BK N0 M lo hi, SHk N0 lo hi k, v] = .ok (.int s)) : S_measured (m + 1) [BK N0 M lo hi, PK N0 M lo hi, .tup [.str (M k), v]] = .ok (.int s) := by
  have pl := place_val M (SHk N0 lo hi) 3 (M k)
  rw [pf_some (List.mem_range.mpr hk) fun j hj => hM j (List.mem_range.mp hj)] at pl
  show U_measured _ _ = _
  apply runD_rt
  simp at pl
  simp [PK, shP, pl, brs_at M (SHk N0 lo hi) hk, e]
theorem mR2 (m : Nat) (b p q x y : D) (k l : Int) (hp : S_measured m [b, p, x] = .ok (.int k)) (hq : S_measured m [b, q, y] = .ok (.int l)) : S_measured (m + 1) [b, shR p q, .tup [x, y]] = .ok (.int (k + l)) := by
  show U_measured _ _ = _
  apply runD_rt
  simp [shR, wipeD, zipD, lcD, hp, hq, gSum, intsOf]
theorem mM (n : Nat) (b p : D) (m : D → Int) (xs : List D) (hl : xs.length ≤ 1000) (hp : ∀ x ∈ xs, S_measured n [b, p, x] = .ok (.int (m x))) : S_measured (n + 1) [b, shM p, .lst xs] = .ok (.int (xs.map fun x => 1 + m x).sum) := by
  have z : ∀ y3, lcD (.nm 4) tTrue (eBin gAdd (eC (.int 1)) (eCall (S_measured n) (aCons (eV 0) (aCons (eBin gIx (eV 1) (eC (.int 1))) (aCons (eV 4) aNil))))) [.v b, .v (shM p), .v (.lst xs), y3, .un] xs = .ok (xs.map fun x => D.int (1 + m x)) := by
    intro y3
    have := lcD_mapL (p := .nm 4) (c := tTrue) (e := eBin gAdd (eC (.int 1)) (eCall (S_measured n) (aCons (eV 0) (aCons (eBin gIx (eV 1) (eC (.int 1))) (aCons (eV 4) aNil))))) (δ := [.v b, .v (shM p), .v (.lst xs), y3, .un]) (g := fun x : D => x) (f := fun x => D.int (1 + m x)) xs fun x hx => by
      have e := hp x hx
      exact ⟨_, by simp; rfl, by simp, by simp [shM, e]⟩
    rw [List.map_id'] at this
    exact this
  have l1 : xs.length ≤ sizeLine := small_line (by omega)
  show U_measured _ _ = _
  apply runD_rt
  simp only [shM] at z
  simp [shM, wipeD, z, l1, gSum, intsOf_map]
end
end Law

namespace Law
open PySem L2 Fs
theorem cell_at_val (ns : List Int) (k : Nat) : S_l_cell_at [.lst (ns.map .int), .int (k : Int)] = .ok (.int (cell ns k)) := by
  by_cases h : k < ns.length
  · apply runD_rt
    have e : atI (ns.map D.int) (k : Int) = some (.int (cell ns k)) := by
      rw [atI_ofNat _ (by simpa using h)]
      simp [cell, List.getD, h]
    simp [h, e]
  · apply runD_rt
    have e : cell ns k = 0 := by simp [cell, List.getD, h]
    simp [h, e]
theorem whole_int (i : Int) : S_l_whole [.int i] = .ok (.bl true) := by
  apply runD_rt
  simp
end Law

namespace Law
open PySem L2 Fs MCh
mutual
def Tn.enc (M : Nat → Str) (lo : Int) : Tn → D
  | .leaf s => .tup [.str (M 0), .int (lo + (s : Int))]
  | .node a b => .tup [.str (M 1), .tup [a.enc M lo, b.enc M lo]]
  | .many ts => .tup [.str (M 2), .lst (encs M lo ts)]
def encs (M : Nat → Str) (lo : Int) : List Tn → List D
  | [] => []
  | t :: ts => t.enc M lo :: encs M lo ts
end
theorem encs_map (M : Nat → Str) (lo : Int) : ∀ ts, encs M lo ts = ts.map (Tn.enc M lo)
  | [] => rfl
  | t :: ts => by simp only [encs, encs_map M lo ts, List.map_cons]
def Tn.kind : Tn → Nat
  | .leaf _ => 0
  | .node _ _ => 1
  | .many _ => 2
def Tn.inner (M : Nat → Str) (lo : Int) : Tn → D
  | .leaf s => .int (lo + (s : Int))
  | .node a b => .tup [a.enc M lo, b.enc M lo]
  | .many ts => .lst (ts.map (Tn.enc M lo))
theorem enc_eq (M : Nat → Str) (lo : Int) (t : Tn) : t.enc M lo = .tup [.str (M t.kind), t.inner M lo] := by
  cases t <;> simp [Tn.enc, Tn.kind, Tn.inner, encs_map]
theorem kind_lt (t : Tn) : t.kind < 3 := by cases t <;> simp [Tn.kind]
mutual
def Tn.inn (w : Nat) : Tn → Prop
  | .leaf s => s ≤ w
  | .node a b => a.inn w ∧ b.inn w
  | .many ts => ts.length ≤ 3 ∧ inns w ts
def inns (w : Nat) : List Tn → Prop
  | [] => True
  | t :: ts => t.inn w ∧ inns w ts
end
theorem inns_mem {w : Nat} : ∀ {ts : List Tn}, inns w ts → ∀ t ∈ ts, t.inn w
  | [], _, t, h => by simp at h
  | u :: us, h, t, ht => by
    simp only [inns] at h
    rcases List.mem_cons.mp ht with rfl | ht
    · exact h.1
    · exact inns_mem h.2 t ht
theorem inns_of {w : Nat} : ∀ {ts : List Tn}, (∀ t ∈ ts, t.inn w) → inns w ts
  | [], _ => trivial
  | u :: us, h => ⟨h u (by simp), inns_of fun t ht => h t (by simp [ht])⟩
section
variable (N0 : Str) (M : Nat → Str) (lo hi : Int)
def FT (n : Nat) (v : D) (g : Bool) : Prop := ∀ m, S_fits (m + n) [BK N0 M lo hi, shU N0, v] = .ok (.bl g)
def MI (n k : Nat) (v : D) (s : Int) : Prop := ∀ m, S_measured (m + n) [BK N0 M lo hi, SHk N0 lo hi k, v] = .ok (.int s)
structure Cfg : Prop where
  inj : ∀ i j, i < 3 → j < 3 → M i = M j → i = j
  lay : ∀ k, PyData.canLay0 (.str (M k)) = true
end
section
variable {N0 : Str} {M : Nat → Str} {lo hi : Int}
theorem FT.at {n : Nat} {v : D} {g : Bool} (h : FT N0 M lo hi n v g) {m : Nat} (hm : n ≤ m) : S_fits m [BK N0 M lo hi, shU N0, v] = .ok (.bl g) := by
  have := h (m - n)
  rwa [show m - n + n = m by omega] at this
/-- what a tree is to the program -/
structure Fa (N0 : Str) (M : Nat → Str) (lo hi : Int) (d : Nat) (t : Tn) : Prop where
  fit : FT N0 M lo hi (6 * d) (t.enc M lo) true
  mea : ∀ m, S_measured (m + 3 * d) [BK N0 M lo hi, SHk N0 lo hi t.kind, t.inner M lo] = .ok (.int ((t.sz : Nat) - 1))
  cpy : ∀ m, S_l_copy (m + 2 * d + 1) [t.enc M lo] = .ok (t.enc M lo)
theorem mU' (C : Cfg M) {t : Tn} {n : Nat} {s : Int} (h : S_measured n [BK N0 M lo hi, SHk N0 lo hi t.kind, t.inner M lo] = .ok (.int s)) : S_measured (n + 2) [BK N0 M lo hi, shU N0, t.enc M lo] = .ok (.int (1 + s)) := by
  rw [enc_eq]
  exact mU _ _ N0 _ _ of0 (mP _ _ t.kind (kind_lt t) (fun j hj h => C.inj j _ hj (kind_lt t) h) _ h)
theorem copy_tup {n : Nat} {x y : D} (hx : S_l_copy n [x] = .ok x) (hy : S_l_copy n [y] = .ok y) : S_l_copy (n + 1) [.tup [x, y]] = .ok (.tup [x, y]) := by
  show U_l_copy _ _ = _
  apply runD_rt
  simp [wipeD, lcD, hx, hy]
theorem copy_lst {n : Nat} {xs : List D} (hl : xs.length ≤ 1000) (h : ∀ x ∈ xs, S_l_copy n [x] = .ok x) : S_l_copy (n + 1) [.lst xs] = .ok (.lst xs) := by
  have z : lcD (.nm 1) tTrue (eCall (S_l_copy n) (aCons (eV 1) aNil)) [.v (.lst xs), .un] xs = .ok xs := by
    have := lcD_mapL (p := .nm 1) (c := tTrue) (e := eCall (S_l_copy n) (aCons (eV 1) aNil)) (δ := [.v (.lst xs), .un]) (fun x : D => x) (fun x : D => x) xs fun x hx => ⟨_, by simp; rfl, by simp, by simp [h x hx]⟩
    rwa [List.map_id'] at this
  have l1 : xs.length ≤ sizeLine := small_line (by omega)
  show U_l_copy _ _ = _
  apply runD_rt
  simp [wipeD, z, l1]
theorem copy_str (n : Nat) (s : Str) : S_l_copy (n + 1) [.str s] = .ok (.str s) := by
  show U_l_copy _ _ = _
  apply runD_rt
  simp
theorem copy_int (n : Nat) (s : Int) : S_l_copy (n + 1) [.int s] = .ok (.int s) := by
  show U_l_copy _ _ = _
  apply runD_rt
  simp
theorem facts (C : Cfg M) {w : Nat} (hw : (w : Int) = hi - lo) : ∀ (d : Nat) (t : Tn), t.dp ≤ d → t.inn w → Fa N0 M lo hi d t
  | 0, t, h, _ => by have := dp_pos t; omega
  | d + 1, .leaf s, _, hi' => by
    simp only [Tn.inn] at hi'
    refine ⟨fun m => ?_, fun m => ?_, fun m => ?_⟩
    · rw [show m + 6 * (d + 1) = m + 6 * d + 2 + 1 + 2 + 1 by omega]
      have h1 := fits_W2 (m + 6 * d + 2) (BK N0 M lo hi) (.int (lo + (s : Int))) lo hi (by intro a h; cases h)
      rw [show okW lo hi (.int (lo + (s : Int))) = true by simp [okW]; omega] at h1
      exact fU _ _ N0 _ _ of0 (fP _ _ 0 (by decide) (fun j hj h => C.inj j 0 hj (by decide) h) _ h1)
    · have := meas_W (m + 3 * d + 2) (BK N0 M lo hi) lo hi (lo + (s : Int))
      rw [show m + 3 * (d + 1) = m + 3 * d + 2 + 1 by omega]
      refine this.trans ?_
      congr 2
      show ((Builtin.Int.intBits (lo + (s : Int) - lo) : Nat) : Int) = (((1 + bitsN s : Nat) : Int) - 1)
      rw [show lo + (s : Int) - lo = (s : Int) by omega]
      unfold bitsN
      omega
    · rw [show m + 2 * (d + 1) + 1 = m + 2 * d + 1 + 1 + 1 by omega]
      exact copy_tup (copy_str _ _) (copy_int _ _)
  | d + 1, .node a b, h, hi' => by
    simp only [Tn.inn] at hi'
    simp only [Tn.dp] at h
    have fa := facts C hw d a (by omega) hi'.1
    have fb := facts C hw d b (by omega) hi'.2
    refine ⟨fun m => ?_, fun m => ?_, fun m => ?_⟩
    · rw [show m + 6 * (d + 1) = m + 1 + 6 * d + 2 + 2 + 1 by omega]
      exact fU _ _ N0 _ _ of0 (fP _ _ 1 (by decide) (fun j hj h => C.inj j 1 hj (by decide) h) _ (fR _ _ _ _ _ _ _ _ (fa.fit.at (by omega)) (fb.fit.at (by omega))))
    · have h1 := mU' C (fa.mea m)
      have h2 := mU' C (fb.mea m)
      have := mR2 _ _ _ _ _ _ _ _ h1 h2
      rw [show m + 3 * (d + 1) = m + 3 * d + 2 + 1 by omega]
      refine this.trans ?_
      congr 2
      simp only [Tn.sz]
      omega
    · rw [show m + 2 * (d + 1) + 1 = m + 2 * d + 1 + 1 + 1 by omega]
      exact copy_tup (copy_str _ _) (copy_tup (fa.cpy m) (fb.cpy m))
  | d + 1, .many ts, h, hi' => by
    simp only [Tn.inn] at hi'
    simp only [Tn.dp] at h
    have ft : ∀ t ∈ ts, Fa N0 M lo hi d t := fun t ht => facts C hw d t (by have := dps_mem ht; omega) (inns_mem hi'.2 t ht)
    refine ⟨fun m => ?_, fun m => ?_, fun m => ?_⟩
    · rw [show m + 6 * (d + 1) = m + 1 + 6 * d + 2 + 2 + 1 by omega]
      have h1 := fM (m + 1 + 6 * d) (BK N0 M lo hi) (shU N0) (fun _ => true) (encs M lo ts) fun x hx => by
        rw [encs_map] at hx
        obtain ⟨t, ht, rfl⟩ := List.mem_map.mp hx
        exact (ft t ht).fit.at (by omega)
      rw [show ((encs M lo ts).all fun _ => true) = true by simp] at h1
      exact fU _ _ N0 _ _ of0 (fP _ _ 2 (by decide) (fun j hj h => C.inj j 2 hj (by decide) h) _ h1)
    · have e : ∀ t ∈ ts, S_measured (m + 3 * d + 2) [BK N0 M lo hi, shU N0, t.enc M lo] = .ok (.int (t.sz : Nat)) := fun t ht => by
        have := mU' C ((ft t ht).mea m)
        rw [show 1 + (((t.sz : Nat) : Int) - 1) = (t.sz : Nat) by omega] at this
        exact this
      obtain ⟨f, hf⟩ : ∃ f : D → Int, ∀ x, f x = match S_measured (m + 3 * d + 2) [BK N0 M lo hi, shU N0, x] with | .ok (.int g) => g | _ => 0 := ⟨_, fun _ => rfl⟩
      have h1 := mM (m + 3 * d + 2) (BK N0 M lo hi) (shU N0) f (ts.map (Tn.enc M lo)) (by rw [List.length_map]; omega) fun x hx => by
        obtain ⟨t, ht, rfl⟩ := List.mem_map.mp hx
        rw [hf, e t ht]
      rw [show m + 3 * (d + 1) = m + 3 * d + 2 + 1 by omega]
      refine h1.trans ?_
      congr 2
      rw [List.map_map]
      simp only [Tn.sz]
      rw [show ((ts.map ((fun x => 1 + f x) ∘ Tn.enc M lo)).sum : Int) = (ts.map fun t => 1 + ((t.sz : Nat) : Int)).sum by
        congr 1
        apply List.map_congr_left
        intro t ht
        show 1 + f (t.enc M lo) = _
        rw [hf, e t ht], ← szs_sum]
      omega
    · rw [show m + 2 * (d + 1) + 1 = m + 2 * d + 1 + 1 + 1 by omega]
      refine copy_tup (copy_str _ _) (copy_lst (by rw [encs_map, List.length_map]; omega) fun x hx => ?_)
      rw [encs_map] at hx
      obtain ⟨t, ht, rfl⟩ := List.mem_map.mp hx
      exact (ft t ht).cpy m
/-! the order -/
theorem sign_val (i : Int) : S_sign_of [.int i] = .ok (.int (sgn i)) := by
  apply runD_rt
  unfold sgn
  by_cases h1 : 0 < i
  · have h2 : ¬ i < 0 := by omega
    simp [h1, h2]
  · by_cases h2 : i < 0
    · simp [h1, h2]
    · simp [h1, h2]
theorem oW (n : Nat) (b : D) (i j : Int) (h : Builtin.Int.intBits (i - lo) = Builtin.Int.intBits (j - lo)) : S_order (n + 1) [b, shW lo hi, .int i, .int j] = .ok (.int (sgn (i - j))) := by
  have h1 := meas_W 79 b lo hi i
  have h2 := meas_W 79 b lo hi j
  rw [h] at h1
  show U_order _ _ _ _ = _
  apply runD_rt
  simp only [shW] at h1 h2
  simp [shW, h1, h2, sign_val]
def fnz (f : Nat → Int) : List Nat → Int
  | [] => 0
  | k :: l => if f k ≠ 0 then f k else fnz f l
theorem rows_loop (c1 c2 c3 : List D → R D) (A P X Y : D) (f : Nat → Int) : ∀ (l : List Nat) (y4 y5 : Fs.Slot), (∀ k ∈ l, ∃ p x y, gIx P (.int (k : Int)) = some p ∧ gIx X (.int (k : Int)) = some x ∧ gIx Y (.int (k : Int)) = some y ∧ c1 [A, p, x, y] = .ok (.int (f k))) →
    ∃ z4 z5, forD (.nm 4) (L_order_of_rows_0 c1 c2 c3) (l.map fun (k : Nat) => D.int (k : Int)) [.v A, .v P, .v X, .v Y, y4, y5] = if fnz f l ≠ 0 then .rt (.int (fnz f l)) else .nx [.v A, .v P, .v X, .v Y, z4, z5]
  | [], y4, y5, _ => ⟨y4, y5, by simp [fnz, forD]⟩
  | k :: l, y4, y5, h => by
    obtain ⟨p, x, y, e1, e2, e3, e4⟩ := h k (by simp)
    by_cases hf : f k = 0
    · obtain ⟨z4, z5, ih⟩ := rows_loop c1 c2 c3 A P X Y f l (.v (.int k)) (.v (.int (f k))) fun j hj => h j (by simp [hj])
      refine ⟨z4, z5, ?_⟩
      have e5 : L_order_of_rows_0 c1 c2 c3 [.v A, .v P, .v X, .v Y, .v (.int k), y5] = .nx [.v A, .v P, .v X, .v Y, .v (.int k), .v (.int (f k))] := by simp [L_order_of_rows_0, e1, e2, e3, e4, hf]
      rw [hf] at ih e5
      rw [List.map_cons, forD]
      simp only [v_nm, List.set_cons_succ, List.set_cons_zero, e5, ih, fnz, hf, ne_eq, not_true_eq_false, if_false]
    · refine ⟨y4, y5, ?_⟩
      have e5 : L_order_of_rows_0 c1 c2 c3 [.v A, .v P, .v X, .v Y, .v (.int k), y5] = .rt (.int (f k)) := by simp [L_order_of_rows_0, e1, e2, e3, e4, hf]
      rw [List.map_cons, forD]
      simp only [v_nm, List.set_cons_succ, List.set_cons_zero, e5, fnz, hf, ne_eq, not_false_eq_true, if_true]
theorem rngD_map (n : Nat) : rngD 0 n = (List.range n).map fun (k : Nat) => D.int (k : Int) := by
  unfold rngD
  apply List.map_congr_left
  intro a _
  rw [Int.zero_add]
theorem rows_val (n : Nat) (A P X Y : D) (a b k : Nat) (f : Nat → Int) (hX : gLen [X] = some (.int (a : Nat))) (hY : gLen [Y] = some (.int (b : Nat))) (hk : k = min a b) (hs : k ≤ 1000)
    (h : ∀ j, j < k → ∃ p x y, gIx P (.int (j : Int)) = some p ∧ gIx X (.int (j : Int)) = some x ∧ gIx Y (.int (j : Int)) = some y ∧ S_order n [A, p, x, y] = .ok (.int (f j))) :
    S_order_of_rows (n + 1) [A, P, X, Y] = .ok (.int (fnz f (List.range k))) := by
  obtain ⟨z4, z5, e⟩ := rows_loop (S_order n) (S_order_of_picks n) (S_order_of_rows n) A P X Y f (List.range k) .un .un fun j hj => h j (List.mem_range.mp hj)
  rw [← rngD_map] at e
  have hm : (if b < a then (b : Int) else (a : Int)) = (k : Int) := by split <;> omega
  have hr : rngOk (k : Int) := rngOk_nat (by omega)
  show U_order_of_rows _ _ _ _ = _
  apply runD_rt
  by_cases h0 : fnz f (List.range k) = 0
  · rw [if_neg (not_not_intro h0)] at e
    simp [hX, hY, hm, hr, e, h0]
  · rw [if_pos h0] at e
    simp [hX, hY, hm, hr, e]
theorem fnz_map (f : Nat → Int) (g : Nat → Nat) : ∀ l, fnz f (l.map g) = fnz (fun k => f (g k)) l
  | [] => rfl
  | k :: l => by simp only [List.map_cons, fnz, fnz_map f g l]
theorem ords_fnz : ∀ (ts us : List Tn) (f : Nat → Int), (∀ k (h1 : k < ts.length) (h2 : k < us.length), f k = ord ts[k] us[k]) → ords ts us = fnz f (List.range (min ts.length us.length))
  | [], us, f, _ => by simp [ords, fnz]
  | t :: ts, [], f, _ => by simp [ords, fnz]
  | t :: ts, u :: us, f, h => by
    have ih := ords_fnz ts us (fun k => f (k + 1)) fun k h1 h2 => h (k + 1) (by simp; omega) (by simp; omega)
    rw [show min (t :: ts).length (u :: us).length = min ts.length us.length + 1 by simp only [List.length_cons]; omega, List.range_succ_eq_map, fnz, fnz_map]
    have h0 := h 0 (by simp) (by simp)
    simp only [List.getElem_cons_zero] at h0
    simp only [ords, h0, ih]
theorem oR (n : Nat) (A p q x y z u : D) (s r1 r2 : Int) (m1 : S_measured 80 [A, shR p q, .tup [x, y]] = .ok (.int s)) (m2 : S_measured 80 [A, shR p q, .tup [z, u]] = .ok (.int s))
    (e1 : S_order n [A, p, x, z] = .ok (.int r1)) (e2 : S_order n [A, q, y, u] = .ok (.int r2)) : S_order (n + 2) [A, shR p q, .tup [x, y], .tup [z, u]] = .ok (.int (if r1 ≠ 0 then r1 else r2)) := by
  have h := rows_val n A (.tup [p, q]) (.tup [x, y]) (.tup [z, u]) 2 2 2 (fun j => if j = 0 then r1 else r2) (by simp) (by simp) rfl (by decide) fun j hj => by
    have : j = 0 ∨ j = 1 := by omega
    rcases this with rfl | rfl
    · exact ⟨p, x, z, by simp, by simp, by simp, by simpa using e1⟩
    · exact ⟨q, y, u, by simp, by simp, by simp, by simpa using e2⟩
  have h2 : fnz (fun j => if j = 0 then r1 else r2) (List.range 2) = if r1 ≠ 0 then r1 else r2 := by
    show (if (if (0:Nat) = 0 then r1 else r2) ≠ 0 then _ else if (if (1:Nat) = 0 then r1 else r2) ≠ 0 then (if (1:Nat) = 0 then r1 else r2) else 0) = _
    by_cases h1 : r1 = 0 <;> by_cases h2 : r2 = 0 <;> simp [h1, h2]
  rw [h2] at h
  simp only [shR] at m1 m2
  show U_order _ _ _ _ = _
  apply runD_rt
  simp [shR, m1, m2, h]
theorem oM (n : Nat) (A p : D) (xs ys : List D) (s : Int) (f : Nat → Int) (hx : xs.length ≤ 3) (m1 : S_measured 80 [A, shM p, .lst xs] = .ok (.int s)) (m2 : S_measured 80 [A, shM p, .lst ys] = .ok (.int s))
    (h : ∀ j (h1 : j < xs.length) (h2 : j < ys.length), S_order n [A, p, xs[j], ys[j]] = .ok (.int (f j))) : S_order (n + 2) [A, shM p, .lst xs, .lst ys] = .ok (.int (fnz f (List.range (min xs.length ys.length)))) := by
  have h := rows_val n A (.lst (xs.map fun _ => p)) (.lst xs) (.lst ys) xs.length ys.length _ f (by simp) (by simp) rfl (by omega) fun j hj => by
    have h1 : j < xs.length := by omega
    have h2 : j < ys.length := by omega
    refine ⟨p, xs[j], ys[j], ?_, ?_, ?_, h j h1 h2⟩
    · have := atI_ofNat (xs.map fun _ => p) (j := j) (by rw [List.length_map]; exact h1)
      rw [List.getElem_map] at this
      exact this
    · exact atI_ofNat xs h1
    · exact atI_ofNat ys h2
  have z : ∀ y3 y4 y5, lcD (.nm 6) tTrue (eBin gIx (eV 1) (eC (.int 1))) [.v A, .v (shM p), y3, y4, y5, .v (.int s), .un] xs = .ok (xs.map fun _ => p) := by
    intro y3 y4 y5
    have := lcD_mapL (p := .nm 6) (c := tTrue) (e := eBin gIx (eV 1) (eC (.int 1))) (δ := [.v A, .v (shM p), y3, y4, y5, .v (.int s), .un]) (fun x : D => x) (fun _ => p) xs fun x hx => ⟨_, by simp; rfl, by simp, by simp [shM]⟩
    rwa [List.map_id'] at this
  have l1 : xs.length ≤ sizeLine := small_line (by omega)
  simp only [shM] at m1 m2 z
  show U_order _ _ _ _ = _
  apply runD_rt
  simp [wipeD, shM, m1, m2, z, l1, h]
theorem place_at (C : Cfg M) {k : Nat} (hk : k < 3) : S_place_of [.tup (brs M (SHk N0 lo hi) 3), .str (M k)] = .ok (.int (k : Nat)) := by
  have pl := place_val M (SHk N0 lo hi) 3 (M k)
  rw [pf_some (List.mem_range.mpr hk) fun j hj h => C.inj j k (List.mem_range.mp hj) hk h] at pl
  exact pl
theorem oU (C : Cfg M) (n : Nat) (t u : Tn) (r : Int) (m1 : S_measured 78 [BK N0 M lo hi, SHk N0 lo hi t.kind, t.inner M lo] = .ok (.int ((t.sz : Nat) - 1))) (m2 : S_measured 78 [BK N0 M lo hi, SHk N0 lo hi u.kind, u.inner M lo] = .ok (.int ((u.sz : Nat) - 1)))
    (m3 : S_measured 79 [BK N0 M lo hi, SHk N0 lo hi t.kind, t.inner M lo] = .ok (.int ((t.sz : Nat) - 1))) (m4 : S_measured 79 [BK N0 M lo hi, SHk N0 lo hi u.kind, u.inner M lo] = .ok (.int ((u.sz : Nat) - 1)))
    (e : t.sz = u.sz → t.kind = u.kind → S_order n [BK N0 M lo hi, SHk N0 lo hi t.kind, t.inner M lo, u.inner M lo] = .ok (.int r)) :
    S_order (n + 3) [BK N0 M lo hi, shU N0, t.enc M lo, u.enc M lo] = .ok (.int (if t.sz ≠ u.sz then sgn ((t.sz : Int) - (u.sz : Int)) else if t.kind ≠ u.kind then sgn ((t.kind : Int) - (u.kind : Int)) else r)) := by
  have a1 := mU' C m1
  have a2 := mU' C m2
  have b1 := mP 79 _ t.kind (kind_lt t) (fun j hj h => C.inj j _ hj (kind_lt t) h) _ m3
  have b2 := mP 79 _ u.kind (kind_lt u) (fun j hj h => C.inj j _ hj (kind_lt u) h) _ m4
  rw [show (1 : Int) + (((t.sz : Nat) : Int) - 1) = (t.sz : Nat) by omega] at a1
  rw [show (1 : Int) + (((u.sz : Nat) : Int) - 1) = (u.sz : Nat) by omega] at a2
  rw [← enc_eq] at b1 b2
  have p1 := place_at (N0 := N0) (lo := lo) (hi := hi) C (kind_lt t)
  have p2 := place_at (N0 := N0) (lo := lo) (hi := hi) C (kind_lt u)
  have key : t.sz = u.sz → S_order (n + 2) [BK N0 M lo hi, PK N0 M lo hi, t.enc M lo, u.enc M lo] = .ok (.int (if t.kind ≠ u.kind then sgn ((t.kind : Int) - (u.kind : Int)) else r)) := by
    intro hs
    have kp : S_order_of_picks (n + 1) [BK N0 M lo hi, .tup (brs M (SHk N0 lo hi) 3), t.enc M lo, u.enc M lo] = .ok (.int (if t.kind ≠ u.kind then sgn ((t.kind : Int) - (u.kind : Int)) else r)) := by
      show U_order_of_picks _ _ _ _ = _
      apply runD_rt
      by_cases hk : t.kind = u.kind
      · have e' := e hs hk
        have hb := brs_at M (SHk N0 lo hi) (kind_lt t)
        rw [if_neg (not_not_intro hk)]
        have hk' : (t.kind : Int) = (u.kind : Int) := by omega
        rw [enc_eq M lo t, enc_eq M lo u]
        rw [← hk] at p2 ⊢
        simp [p1, hb, e']
      · have hk' : ¬ (t.kind : Int) = (u.kind : Int) := by omega
        rw [if_pos hk]
        rw [enc_eq M lo t, enc_eq M lo u]
        simp [p1, p2, hk', sign_val]
    rw [hs] at b1
    show U_order _ _ _ _ = _
    apply runD_rt
    simp only [PK, shP] at b1 b2
    simp [PK, shP, b1, b2, kp]
  show U_order _ _ _ _ = _
  apply runD_rt
  simp only [shU] at a1 a2
  by_cases hs : t.sz = u.sz
  · have hk := key hs
    rw [if_neg (not_not_intro hs)]
    rw [hs] at a1
    simp [shU, a1, a2, of0, hk]
  · have hs' : ¬ (t.sz : Int) = (u.sz : Int) := by omega
    rw [if_pos hs]
    simp [shU, a1, a2, hs', sign_val]
end
end Law

namespace Law
open PySem L2 Fs MCh
section
variable {N0 : Str} {M : Nat → Str} {lo hi : Int}
theorem Fa.at {d : Nat} {t : Tn} (h : Fa N0 M lo hi d t) {m : Nat} (hm : 3 * d ≤ m) : S_measured m [BK N0 M lo hi, SHk N0 lo hi t.kind, t.inner M lo] = .ok (.int ((t.sz : Nat) - 1)) := by
  have := h.mea (m - 3 * d)
  rwa [show m - 3 * d + 3 * d = m by omega] at this
theorem ordF (C : Cfg M) {w : Nat} (hw : (w : Int) = hi - lo) : ∀ (d : Nat) (t u : Tn), d ≤ 12 → t.dp ≤ d → u.dp ≤ d → t.inn w → u.inn w → ∀ m, S_order (m + 5 * d) [BK N0 M lo hi, shU N0, t.enc M lo, u.enc M lo] = .ok (.int (ord t u))
  | 0, t, u, _, h, _, _, _ => by have := dp_pos t; omega
  | d + 1, t, u, hd, ht, hu, it, iu => fun m => by
    have f1 := facts (N0 := N0) C hw (d + 1) t ht it
    have f2 := facts (N0 := N0) C hw (d + 1) u hu iu
    have key : ∀ r : Int, (t.sz = u.sz → t.kind = u.kind → S_order (m + 5 * d + 2) [BK N0 M lo hi, SHk N0 lo hi t.kind, t.inner M lo, u.inner M lo] = .ok (.int r)) →
        (t.sz = u.sz → ord t u = if t.kind ≠ u.kind then sgn ((t.kind : Int) - (u.kind : Int)) else r) → S_order (m + 5 * (d + 1)) [BK N0 M lo hi, shU N0, t.enc M lo, u.enc M lo] = .ok (.int (ord t u)) := by
      intro r h1 h2
      have := oU C (m + 5 * d + 2) t u r (f1.at (by omega)) (f2.at (by omega)) (f1.at (by omega)) (f2.at (by omega)) h1
      rw [show m + 5 * (d + 1) = m + 5 * d + 2 + 3 by omega]
      refine this.trans ?_
      congr 2
      by_cases hs : t.sz = u.sz
      · rw [if_neg (not_not_intro hs), h2 hs]
      · rw [if_pos hs, ord_ne hs]
    match t, u, ht, hu, it, iu, f1, f2, key with
    | .leaf s, .leaf s', ht, hu, it, iu, f1, f2, key =>
      refine key (sgn ((s : Int) - (s' : Int))) (fun hs _ => ?_) (fun hs => by simp [ord, hs, Tn.kind])
      have h1 : Builtin.Int.intBits (lo + (s : Int) - lo) = Builtin.Int.intBits (lo + (s' : Int) - lo) := by
        rw [show lo + (s : Int) - lo = (s : Int) by omega, show lo + (s' : Int) - lo = (s' : Int) by omega]
        simp only [Tn.sz, bitsN] at hs
        omega
      have := oW (hi := hi) (m + 5 * d + 1) (BK N0 M lo hi) (lo + (s : Int)) (lo + (s' : Int)) h1
      rw [show lo + (s : Int) - (lo + (s' : Int)) = (s : Int) - (s' : Int) by omega] at this
      exact this
    | .node a b, .node a' b', ht, hu, it, iu, f1, f2, key =>
      simp only [Tn.dp] at ht hu
      simp only [Tn.inn] at it iu
      refine key (if ord a a' ≠ 0 then ord a a' else ord b b') (fun hs _ => ?_) (fun hs => by simp [ord, hs, Tn.kind])
      have e1 := ordF C hw d a a' (by omega) (by omega) (by omega) it.1 iu.1 m
      have e2 := ordF C hw d b b' (by omega) (by omega) (by omega) it.2 iu.2 m
      have m1 := f1.at (m := 80) (by omega)
      have m2 := f2.at (m := 80) (by omega)
      rw [← hs] at m2
      exact oR (m + 5 * d) (BK N0 M lo hi) (shU N0) (shU N0) _ _ _ _ _ _ _ m1 m2 e1 e2
    | .many ts, .many us, ht, hu, it, iu, f1, f2, key =>
      simp only [Tn.dp] at ht hu
      simp only [Tn.inn] at it iu
      refine key (ords ts us) (fun hs _ => ?_) (fun hs => by simp [ord, hs, Tn.kind])
      have m1 := f1.at (m := 80) (by omega)
      have m2 := f2.at (m := 80) (by omega)
      rw [← hs] at m2
      obtain ⟨f, hf⟩ : ∃ f : Nat → Int, ∀ k (h1 : k < ts.length) (h2 : k < us.length), f k = ord ts[k] us[k] := ⟨fun k => if h : k < ts.length ∧ k < us.length then ord (ts[k]'h.1) (us[k]'h.2) else 0, fun k h1 h2 => by simp [h1, h2]⟩
      have := oM (m + 5 * d) (BK N0 M lo hi) (shU N0) (ts.map (Tn.enc M lo)) (us.map (Tn.enc M lo)) _ f (by rw [List.length_map]; exact it.1) m1 m2 fun j h1 h2 => by
        rw [List.length_map] at h1 h2
        rw [List.getElem_map, List.getElem_map, hf j h1 h2]
        have hj1 := List.getElem_mem h1
        have hj2 := List.getElem_mem h2
        exact ordF C hw d _ _ (by omega) (by have := dps_mem hj1; omega) (by have := dps_mem hj2; omega) (inns_mem it.2 _ hj1) (inns_mem iu.2 _ hj2) m
      rw [List.length_map, List.length_map] at this
      rw [ords_fnz ts us f hf]
      exact this
    | .leaf _, .node _ _, _, _, _, _, _, _, key => exact key 0 (fun _ h => by simp [Tn.kind] at h) (fun hs => by simp [ord, hs, Tn.kind, sgn])
    | .leaf _, .many _, _, _, _, _, _, _, key => exact key 0 (fun _ h => by simp [Tn.kind] at h) (fun hs => by simp [ord, hs, Tn.kind, sgn])
    | .node _ _, .leaf _, _, _, _, _, _, _, key => exact key 0 (fun _ h => by simp [Tn.kind] at h) (fun hs => by simp [ord, hs, Tn.kind, sgn])
    | .node _ _, .many _, _, _, _, _, _, _, key => exact key 0 (fun _ h => by simp [Tn.kind] at h) (fun hs => by simp [ord, hs, Tn.kind, sgn])
    | .many _, .leaf _, _, _, _, _, _, _, key => exact key 0 (fun _ h => by simp [Tn.kind] at h) (fun hs => by simp [ord, hs, Tn.kind, sgn])
    | .many _, .node _ _, _, _, _, _, _, _, key => exact key 0 (fun _ h => by simp [Tn.kind] at h) (fun hs => by simp [ord, hs, Tn.kind, sgn])
end
/-! == of trees -/
mutual
def Tn.py (M : Nat → Str) (lo : Int) : Tn → PyData
  | .leaf s => .tuple [.str (M 0), .int (lo + (s : Int))]
  | .node a b => .tuple [.str (M 1), .tuple [a.py M lo, b.py M lo]]
  | .many ts => .tuple [.str (M 2), .list (pys M lo ts)]
def pys (M : Nat → Str) (lo : Int) : List Tn → List PyData
  | [] => []
  | t :: ts => t.py M lo :: pys M lo ts
end
mutual
theorem toPy_enc (M : Nat → Str) (lo : Int) : ∀ t : Tn, toPy (t.enc M lo) = some (t.py M lo)
  | .leaf s => by simp [Tn.enc, Tn.py, toPy, toPyL]
  | .node a b => by simp [Tn.enc, Tn.py, toPy, toPyL, toPy_enc M lo a, toPy_enc M lo b]
  | .many ts => by simp [Tn.enc, Tn.py, toPy, toPyL, toPy_encs M lo ts]
theorem toPy_encs (M : Nat → Str) (lo : Int) : ∀ ts : List Tn, toPyL (encs M lo ts) = some (pys M lo ts)
  | [] => by simp [encs, pys, toPyL]
  | t :: ts => by simp [encs, pys, toPyL, toPy_enc M lo t, toPy_encs M lo ts]
end
mutual
theorem lay_py {M : Nat → Str} (C : Cfg M) (lo : Int) : ∀ t : Tn, (t.py M lo).canLay0 = true
  | .leaf s => by
    have := C.lay 0
    simp only [PyData.canLay0] at this
    simp [Tn.py, PyData.canLay0, PyData.canLayAll0, this]
  | .node a b => by
    have := C.lay 1
    simp only [PyData.canLay0] at this
    simp [Tn.py, PyData.canLay0, PyData.canLayAll0, lay_py C lo a, lay_py C lo b, this]
  | .many ts => by
    have := C.lay 2
    simp only [PyData.canLay0] at this
    simp [Tn.py, PyData.canLay0, PyData.canLayAll0, lay_pys C lo ts, this]
theorem lay_pys {M : Nat → Str} (C : Cfg M) (lo : Int) : ∀ ts : List Tn, PyData.canLayAll0 (pys M lo ts) = true
  | [] => by simp [pys, PyData.canLayAll0]
  | t :: ts => by simp [pys, PyData.canLayAll0, lay_py C lo t, lay_pys C lo ts]
end
mutual
theorem dep_py (M : Nat → Str) (lo : Int) : ∀ t : Tn, (t.py M lo).depth ≤ 2 * t.dp
  | .leaf s => by simp [Tn.py, Tn.dp, PyData.depth, PyData.depthAll]
  | .node a b => by
    have := dep_py M lo a
    have := dep_py M lo b
    simp [Tn.py, Tn.dp, PyData.depth, PyData.depthAll]
    omega
  | .many ts => by
    have := dep_pys M lo ts
    simp [Tn.py, Tn.dp, PyData.depth, PyData.depthAll]
    omega
theorem dep_pys (M : Nat → Str) (lo : Int) : ∀ ts : List Tn, PyData.depthAll (pys M lo ts) ≤ 2 * dps ts
  | [] => by simp [pys, PyData.depthAll]
  | t :: ts => by
    have := dep_py M lo t
    have := dep_pys M lo ts
    simp [pys, dps, PyData.depthAll]
    omega
end
mutual
theorem eqv_py {M : Nat → Str} (C : Cfg M) (lo : Int) : ∀ t u : Tn, PyData.eqv (t.py M lo) (u.py M lo) = true ↔ t = u := by
  intro t u
  have n01 : ¬ M 0 = M 1 := fun h => by have := C.inj 0 1 (by decide) (by decide) h; omega
  have n02 : ¬ M 0 = M 2 := fun h => by have := C.inj 0 2 (by decide) (by decide) h; omega
  have n12 : ¬ M 1 = M 2 := fun h => by have := C.inj 1 2 (by decide) (by decide) h; omega
  have n10 : ¬ M 1 = M 0 := fun h => n01 h.symm
  have n20 : ¬ M 2 = M 0 := fun h => n02 h.symm
  have n21 : ¬ M 2 = M 1 := fun h => n12 h.symm
  match t, u with
  | .leaf s, .leaf s' =>
    simp [Tn.py, PyData.eqv, PyData.eqvAll]
    omega
  | .leaf s, .node a b => simp [Tn.py, PyData.eqv, PyData.eqvAll, n01]
  | .leaf s, .many a => simp [Tn.py, PyData.eqv, PyData.eqvAll, n02]
  | .node a b, .leaf s => simp [Tn.py, PyData.eqv, PyData.eqvAll, n10]
  | .node a b, .node a' b' =>
    have i1 := eqv_py C lo a a'
    have i2 := eqv_py C lo b b'
    simp [Tn.py, PyData.eqv, PyData.eqvAll, i1, i2]
  | .node a b, .many s => simp [Tn.py, PyData.eqv, PyData.eqvAll, n12]
  | .many ts, .leaf s => simp [Tn.py, PyData.eqv, PyData.eqvAll, n20]
  | .many ts, .node a b => simp [Tn.py, PyData.eqv, PyData.eqvAll, n21]
  | .many ts, .many us =>
    have i1 := eqv_pys C lo ts us
    simp [Tn.py, PyData.eqv, PyData.eqvAll, i1]
theorem eqv_pys {M : Nat → Str} (C : Cfg M) (lo : Int) : ∀ ts us : List Tn, PyData.eqvAll (pys M lo ts) (pys M lo us) = true ↔ ts = us := by
  intro ts us
  match ts, us with
  | [], [] => simp [pys, PyData.eqvAll]
  | [], u :: us => simp [pys, PyData.eqvAll]
  | t :: ts, [] => simp [pys, PyData.eqvAll]
  | t :: ts, u :: us =>
    have i1 := eqv_py C lo t u
    have i2 := eqv_pys C lo ts us
    simp [pys, PyData.eqvAll, i1, i2]
end
theorem ek_enc {M : Nat → Str} (C : Cfg M) (lo : Int) (t : Tn) {k : Nat} (hk : 2 * t.dp ≤ k) : eqk k (t.enc M lo) := ⟨t.py M lo, toPy_enc M lo t, lay_py C lo t, by have := dep_py M lo t; omega⟩
theorem eq_enc {M : Nat → Str} (C : Cfg M) (lo : Int) (t u : Tn) (ht : t.dp ≤ 20) (hu : u.dp ≤ 20) : gEq (t.enc M lo) (u.enc M lo) = some (.bl (decide (ord t u = 0))) := by
  have e : eqO (t.enc M lo) (u.enc M lo) = eqPy (t.enc M lo) (u.enc M lo) := by
    rw [enc_eq, enc_eq]
    simp [eqO]
  have s1 : SeqAt.shaped (t.py M lo) = true := by
    have := dep_py M lo t
    simp [SeqAt.shaped, lay_py C lo t]
    omega
  have s2 : SeqAt.shaped (u.py M lo) = true := by
    have := dep_py M lo u
    simp [SeqAt.shaped, lay_py C lo u]
    omega
  unfold gEq
  rw [e]
  unfold eqPy
  rw [toPy_enc, toPy_enc]
  simp only [s1, s2, Bool.and_self, if_true, Option.map_some]
  congr 2
  rw [Bool.eq_iff_iff, eqv_py C lo, decide_eq_true_eq, ord_iff]
end Law

namespace Law
open PySem L2 Fs MCh
def ent (M : Nat → Str) (lo : Int) (t : Tn) : D := .tup [t.enc M lo, .int (t.sz : Nat), .int (t.dp : Nat)]
def GT (w : Nat) (t : Tn) : Prop := t.dp ≤ 10 ∧ t.inn w
section
variable {N0 : Str} {M : Nat → Str} {lo hi : Int} {w : Nat}
theorem leaf_val (hw : (w : Int) = hi - lo) (c : Int) : ∃ t : Tn, S_l_leaf [.tup [.str (M 0), shW lo hi], .int c] = .ok (ent M lo t) ∧ GT w t := by
  have hp : (0 : Int) < hi - lo + 1 := by omega
  have g1 := Int.emod_nonneg c (show hi - lo + 1 ≠ 0 by omega)
  have g2 := Int.emod_lt_of_pos c hp
  obtain ⟨s, hs⟩ : ∃ s : Nat, c % (hi - lo + 1) = (s : Int) := ⟨(c % (hi - lo + 1)).toNat, by omega⟩
  refine ⟨.leaf s, ?_, by simp [Tn.dp], by simp only [Tn.inn]; omega⟩
  apply runD_rt
  simp [shW, hp, hs, ent, Tn.enc, Tn.sz, Tn.dp, bitsN]
theorem zc (i : Int) (f : Tn → D) (hf : ∀ t, gIx (ent M lo t) (.int i) = some (f t)) (ts : List Tn) (p0 p1 p2 p3 p4 p5 p6 p7 p8 p9 : Fs.Slot) :
    lcD (.nm 10) tTrue (eBin gIx (eV 10) (eC (.int i))) [p0, p1, p2, p3, p4, p5, p6, p7, p8, p9, .un] (ts.map (ent M lo)) = .ok (ts.map f) :=
  lcD_mapL _ _ _ fun t _ => ⟨_, by simp; rfl, by simp, by simp [hf]⟩
theorem ents_nil (C : Cfg M) {ts : List Tn} (h : ∀ t ∈ ts, GT w t) : gEq (.lst (ts.map (ent M lo))) (.lst []) = some (.bl (decide (ts = []))) := by
  rw [eq_nil (k := 30) (eqk_lst fun x hx => by
    obtain ⟨t, ht, rfl⟩ := List.mem_map.mp hx
    refine eqk_tupL (k := 28) fun y hy => ?_
    simp only [List.mem_cons, List.not_mem_nil, or_false] at hy
    rcases hy with rfl | rfl | rfl
    · exact ek_enc C lo t (by have := (h t ht).1; omega)
    · exact eqk_int _ _
    · exact eqk_int _ _) (by decide)]
  congr 2
  rw [Bool.eq_iff_iff, decide_eq_true_eq, decide_eq_true_eq, List.map_eq_nil_iff]
theorem max_dps : ∀ (ts : List Tn) (h : ts ≠ []), maxI (ts.map fun t => ((t.dp : Nat) : Int)) = some ((dps ts : Nat) : Int)
  | [t], _ => by simp [maxI, dps]
  | t :: u :: us, _ => by
    have ih := max_dps (u :: us) (by simp)
    rw [List.map_cons, maxI, ih]
    have e : dps (t :: u :: us) = max t.dp (dps (u :: us)) := by rw [dps]
    rw [e]
    generalize dps (u :: us) = k
    show some (if (t.dp : Int) ≤ (k : Int) then (k : Int) else (t.dp : Int)) = some ((max t.dp k : Nat) : Int)
    congr 1
    split <;> omega
theorem deep_val (ts : List Tn) : gMaxL [.lst (.int 0 :: ts.map fun t => D.int (t.dp : Nat))] = some (.int (dps ts : Nat)) := by
  have e : gMaxL [.lst (.int 0 :: ts.map fun t => D.int (t.dp : Nat))] = (maxI (0 :: ts.map fun t => ((t.dp : Nat) : Int))).map .int := by
    simp [gMaxL, intsOf, intsOf_map]
  rw [e]
  by_cases h : ts = []
  · subst h
    simp [maxI, dps]
  · rw [maxI, max_dps ts h]
    simp
theorem dps_of {ts : List Tn} {d : Nat} (h : ∀ t ∈ ts, t.dp ≤ d) : dps ts ≤ d := by
  induction ts with
  | nil => simp [dps]
  | cons t ts ih =>
    have h1 := h t (by simp)
    have h2 := ih fun u hu => h u (by simp [hu])
    simp only [dps]
    omega
theorem szs_int (ts : List Tn) : (szs ts : Int) = (ts.map fun t => ((t.sz : Nat) : Int)).sum + (ts.length : Nat) := by
  induction ts with
  | nil => rfl
  | cons t ts ih =>
    simp only [szs, List.map_cons, List.sum_cons, List.length_cons]
    omega
theorem put_val (C : Cfg M) (hw : (w : Int) = hi - lo) (ts : List Tn) (h : ∀ t ∈ ts, GT w t) (hl : ts.length ≤ 100) (c : Int) :
    ∃ us : List Tn, S_l_put [.lst (ts.map (ent M lo)), .tup (brs M (SHk N0 lo hi) 3), .int c] = .ok (.lst (us.map (ent M lo))) ∧ (∀ t ∈ us, GT w t) ∧ us.length ≤ ts.length + 1 ∧ (ts ≠ [] → us ≠ []) := by
  obtain ⟨lf, lf1, lf2⟩ := leaf_val (M := M) hw (c / 5)
  have b0 : atI (brs M (SHk N0 lo hi) 3) 0 = some (.tup [.str (M 0), shW lo hi]) := brs_at M (SHk N0 lo hi) (k := 0) (by decide)
  have b1 : atI (brs M (SHk N0 lo hi) 3) 1 = some (.tup [.str (M 1), shR (shU N0) (shU N0)]) := brs_at M (SHk N0 lo hi) (k := 1) (by decide)
  have b2 : atI (brs M (SHk N0 lo hi) 3) 2 = some (.tup [.str (M 2), shM (shU N0)]) := brs_at M (SHk N0 lo hi) (k := 2) (by decide)
  obtain ⟨B, hB⟩ : ∃ B, brs M (SHk N0 lo hi) 3 = B := ⟨_, rfl⟩
  rw [hB] at b0 b1 b2 ⊢
  obtain ⟨y, hy⟩ : ∃ y : Nat, c % 5 = (y : Int) := ⟨(c % 5).toNat, by omega⟩
  have hy5 : y < 5 := by omega
  obtain ⟨q, hq⟩ : ∃ q : Nat, c / 5 % 4 = (q : Int) := ⟨(c / 5 % 4).toNat, by omega⟩
  have hq4 : q < 4 := by omega
  obtain ⟨m, hm, hmw⟩ : ∃ m : Nat, atI [D.int 0, .int 2, .int 2, .int (q : Int), .int 0] (y : Int) = some (.int (m : Int)) ∧ (((y = 1 ∨ y = 2) ∧ m = 2) ∨ (y = 3 ∧ m ≤ 3) ∨ (m = 0 ∧ y ≠ 3)) := by
    have h6 : y = 0 ∨ y = 1 ∨ y = 2 ∨ y = 3 ∨ y = 4 := by omega
    rcases h6 with h | h | h | h | h <;> subst h
    · exact ⟨0, by simp, by omega⟩
    · exact ⟨2, by simp, by omega⟩
    · exact ⟨2, by simp, by omega⟩
    · exact ⟨q, by simp, by omega⟩
    · exact ⟨0, atI_ofNat [D.int 0, .int 2, .int 2, .int (q : Int), .int 0] (j := 4) (show 4 < 5 by decide), by omega⟩
  obtain ⟨n, hn⟩ : ∃ n, ts.length = n := ⟨_, rfl⟩
  have l1 : n + 1 ≤ sizeLine := small_line (by omega)
  have leafcase : ∀ us : List Tn, us = ts ++ [lf] → (∀ t ∈ us, GT w t) ∧ us.length ≤ ts.length + 1 ∧ (ts ≠ [] → us ≠ []) := by
    rintro us rfl
    refine ⟨fun t ht => ?_, by simp, by simp⟩
    rcases List.mem_append.mp ht with ht | ht
    · exact h t ht
    · rw [List.mem_singleton.mp ht]
      exact lf2
  obtain ⟨t1, t2, h12, hl1, hc⟩ : ∃ t1 t2, ts = t1 ++ t2 ∧ t1.length = n - t2.length ∧ ((0 < m ∧ m ≤ n ∧ t2.length = m ∧ cutD (ts.map (ent M lo)) (some ((n : Int) - (m : Int))) none = t2.map (ent M lo) ∧ cutD (ts.map (ent M lo)) none (some ((n : Int) - (m : Int))) = t1.map (ent M lo)) ∨ (t2 = [] ∧ ¬ (0 < m ∧ m ≤ n))) := by
    by_cases hP : 0 < m ∧ m ≤ n
    · refine ⟨ts.take (n - m), ts.drop (n - m), by rw [List.take_append_drop], by rw [List.length_take, List.length_drop]; omega, .inl ⟨hP.1, hP.2, by rw [List.length_drop]; omega, ?_, ?_⟩⟩
      · have := cutL_lo (ts.map (ent M lo)) (n - m)
        rw [Int.ofNat_sub hP.2] at this
        rw [← List.map_drop] at this
        exact this
      · have := cutL_hi (ts.map (ent M lo)) (n - m)
        rw [Int.ofNat_sub hP.2] at this
        rw [← List.map_take] at this
        exact this
    · exact ⟨ts, [], by simp, by simp [hn], .inr ⟨rfl, hP⟩⟩
  have g1 : ∀ t ∈ t1, GT w t := fun t ht => h t (by rw [h12]; simp [ht])
  have g2 : ∀ t ∈ t2, GT w t := fun t ht => h t (by rw [h12]; simp [ht])
  have d1 := deep_val t2
  have d2 : dps t2 ≤ 10 := dps_of fun t ht => (g2 t ht).1
  have fin : ∀ t : Tn, GT w t → (∀ u ∈ t1 ++ [t], GT w u) ∧ (t1 ++ [t]).length ≤ ts.length + 1 ∧ (ts ≠ [] → t1 ++ [t] ≠ []) := fun t ht => by
    refine ⟨fun u hu => ?_, by simp [hl1, hn], by simp⟩
    rcases List.mem_append.mp hu with hu | hu
    · exact g1 u hu
    · rw [List.mem_singleton.mp hu]
      exact ht
  have z0 := zc (M := M) (lo := lo) 0 (fun t => t.enc M lo) (fun t => by simp [ent]) t2
  have z1 := zc (M := M) (lo := lo) 1 (fun t => D.int (t.sz : Nat)) (fun t => by simp [ent]) t2
  have z2 := zc (M := M) (lo := lo) 2 (fun t => D.int (t.dp : Nat)) (fun t => by simp [ent]) t2
  have en := ents_nil (lo := lo) C g2
  rcases hc with ⟨hP1, hP2, hl2, hs1, hs2⟩ | ⟨hz, hP⟩
  · have hne2 : t2 ≠ [] := by intro h; rw [h] at hl2; simp at hl2; omega
    rw [decide_eq_false hne2] at en
    have k1 : 1 + m ≤ sizeLine := small_line (by omega)
    have k2 : m ≤ sizeLine := small_line (by omega)
    have k3 : n - m + 1 ≤ sizeLine := small_line (by omega)
    have hI1 : (0 : Int) < (m : Int) := by omega
    have hI2 : (m : Int) ≤ (n : Int) := by omega
    rw [hl2] at hl1
    by_cases hd : dps t2 + 1 > 10
    · have hd1 : (10 : Int) < 1 + (dps t2 : Int) := by omega
      refine ⟨ts ++ [lf], ?_, leafcase _ rfl⟩
      apply runD_rt
      simp [wipeD, hy, hq, hm, hn, hP1, hP2, hI1, hI2, hs1, hl2, k1, k2, z2, d1, hd1, l1, lf1, b0]
    · have hd1 : ¬ (10 : Int) < 1 + (dps t2 : Int) := by omega
      have hmw' : ((y = 1 ∨ y = 2) ∧ m = 2) ∨ (y = 3 ∧ m ≤ 3) := by omega
      rcases hmw' with ⟨hy12, hm2⟩ | ⟨hy3, hm3⟩
      · subst hm2
        obtain ⟨a, b, hab⟩ : ∃ a b, t2 = [a, b] := by
          match t2, hl2 with
          | [a, b], _ => exact ⟨a, b, rfl⟩
        have ga := g2 a (by rw [hab]; simp)
        have gb := g2 b (by rw [hab]; simp)
        have hdd : dps t2 = max a.dp b.dp := by rw [hab]; simp [dps]
        have tk : GT w (.node a b) := by
          refine ⟨?_, ?_⟩
          · simp only [Tn.dp]
            omega
          · simp only [Tn.inn]
            exact ⟨ga.2, gb.2⟩
        refine ⟨_, ?_, fin _ tk⟩
        have hv : t2.map (fun t => t.enc M lo) = [a.enc M lo, b.enc M lo] := by rw [hab]; rfl
        have hsum : (t2.map fun t => ((t.sz : Nat) : Int)).sum = (a.sz : Int) + (b.sz : Int) := by rw [hab]; simp
        have he : ent M lo (.node a b) = .tup [.tup [.str (M 1), .tup [a.enc M lo, b.enc M lo]], .int (1 + ((a.sz : Int) + (b.sz : Int))), .int (1 + (dps t2 : Int))] := by
          simp only [ent, Tn.enc, Tn.sz, Tn.dp, hdd]
          congr 3
        have hs1' : cutD (ts.map (ent M lo)) (some ((n : Int) - 2)) none = t2.map (ent M lo) := hs1
        have hs2' : cutD (ts.map (ent M lo)) none (some ((n : Int) - 2)) = t1.map (ent M lo) := hs2
        have hI3 : (2 : Int) ≤ (n : Int) := hI2
        have hy3 : ¬ (y : Int) = 3 := by omega
        have hy3' : ¬ y = 3 := by omega
        apply runD_rt
        simp [wipeD, hy, hq, hm, hn, hI3, hP2, hs1', hl2, k1, k2, k3, z0, z1, z2, d1, hd1, l1, en, b1, hs2', hl1, gSum, intsOf_map, hv, hsum, hy3, hy3', he]
      · subst hy3
        have hmq : q = m := by
          have := hm
          simp at this
          omega
        subst hmq
        have tk : GT w (.many t2) := by
          refine ⟨?_, ?_⟩
          · simp only [Tn.dp]
            omega
          · simp only [Tn.inn]
            exact ⟨by omega, inns_of fun t ht => (g2 t ht).2⟩
        refine ⟨_, ?_, fin _ tk⟩
        have he : ent M lo (.many t2) = .tup [.tup [.str (M 2), .lst (t2.map fun t => t.enc M lo)], .int (1 + (t2.map fun t => ((t.sz : Nat) : Int)).sum + (q : Int)), .int (1 + (dps t2 : Int))] := by
          have := szs_int t2
          rw [hl2] at this
          simp only [ent, Tn.enc, Tn.sz, Tn.dp, encs_map]
          rw [show ((1 + szs t2 : Nat) : Int) = 1 + (t2.map fun t => ((t.sz : Nat) : Int)).sum + (q : Int) by omega]
          congr 3
        apply runD_rt
        simp [wipeD, hy, hq, hn, hI1, hI2, hP1, hP2, hs1, hl2, k1, k2, k3, z0, z1, z2, d1, hd1, l1, en, b2, hs2, hl1, gSum, intsOf_map, he]
  · subst hz
    have k1 : 1 ≤ sizeLine := small_line (by omega)
    have e0 : gEq (.lst []) (.lst []) = some (.bl true) := by simpa using en
    have d1' : gMaxL [.lst [.int 0]] = some (.int 0) := by simp [gMaxL, intsOf, maxI]
    have hs2 : cutD (ts.map (ent M lo)) none (some (n : Int)) = ts.map (ent M lo) := by
      have := cutL_hi (ts.map (ent M lo)) n
      rw [List.take_of_length_le (by rw [List.length_map]; omega)] at this
      exact this
    by_cases h3 : y = 3
    · subst h3
      have hmq : q = m := by
        have := hm
        simp at this
        omega
      subst hmq
      have tk : GT w (.many []) := ⟨by simp [Tn.dp, dps], by simp [Tn.inn, inns]⟩
      have h1t : t1 = ts := by rw [h12]; simp
      obtain ⟨a1, a2, a3⟩ := fin _ tk
      rw [h1t] at a1 a2 a3
      refine ⟨ts ++ [.many []], ?_, a1, a2, a3⟩
      have he : ent M lo (.many []) = .tup [.tup [.str (M 2), .lst []], .int 1, .int 1] := by simp [ent, Tn.enc, Tn.sz, Tn.dp, encs, szs, dps]
      apply runD_rt
      by_cases hm0 : 0 < q
      · have hmn : ¬ q ≤ n := by omega
        have hmn' : ¬ (q : Int) ≤ (n : Int) := by omega
        simp [wipeD, hy, hq, hm0, hmn, hmn', hn, k1, lcD, d1', l1, e0, b2, hs2, gSum, intsOf, he]
      · simp [wipeD, hy, hq, hm0, hn, k1, lcD, d1', l1, e0, b2, hs2, gSum, intsOf, he]
    · refine ⟨ts ++ [lf], ?_, leafcase _ rfl⟩
      have h3' : ¬ (y : Int) = 3 := by omega
      apply runD_rt
      by_cases hm0 : 0 < m
      · have hmn : ¬ m ≤ n := by omega
        have hmn' : ¬ (m : Int) ≤ (n : Int) := by omega
        simp [wipeD, hy, hq, hm, hm0, hmn, hmn', hn, k1, lcD, d1', l1, lf1, e0, b0, h3, h3']
      · simp [wipeD, hy, hq, hm, hm0, hn, k1, lcD, d1', l1, lf1, e0, b0, h3, h3']
end
end Law

namespace Law
open PySem L2 Fs MCh
theorem book_val (ns : List Int) : ∃ (N0 : Str) (M : Nat → Str) (lo hi : Int) (w : Nat), S_l_book [.lst (ns.map .int)] = .ok (BK N0 M lo hi) ∧ Cfg M ∧ (w : Int) = hi - lo := by
  have e0 := cell_at_val ns 0
  have e1 := cell_at_val ns 1
  push_cast at e0 e1
  obtain ⟨c, hc⟩ : ∃ c, cell ns 0 = c := ⟨_, rfl⟩
  rw [hc] at e0
  obtain ⟨b, hb⟩ : ∃ c, cell ns 1 = c := ⟨_, rfl⟩
  rw [hb] at e1
  obtain ⟨sp, hsp⟩ : ∃ sp : Nat, atI [D.int 0, D.int 1, D.int 3, D.int 1000] (c % 4) = some (.int (sp : Int)) := by
    have h4 : c % 4 = 0 ∨ c % 4 = 1 ∨ c % 4 = 2 ∨ c % 4 = 3 := by omega
    rcases h4 with h | h | h | h
    · exact ⟨0, by rw [h]; simp⟩
    · exact ⟨1, by rw [h]; simp⟩
    · exact ⟨3, by rw [h]; simp⟩
    · exact ⟨1000, by rw [h]; simp⟩
  obtain ⟨lo, hlo⟩ : ∃ lo, b % 100000000000000000000 - 50000000000000000000 = lo := ⟨_, rfl⟩
  have hm5 : ∀ j, IntMulOk 5 j := fun j => mul_fitsL (by decide)
  have n0 := name_val (c / 4) 0 (by decide)
  push_cast at n0
  have z : ∀ p1 p2 p3 p4 p5 p6, lcD (.nm 7) tTrue (eCall S_l_name (aCons (eBin gDiv (eCall S_l_cell_at (aCons (eV 0) (aCons (eC (.int 1)) aNil))) (eC (.int 7))) (aCons (eV 7) aNil))) [.v (.lst (ns.map D.int)), p1, p2, p3, p4, p5, p6, .un] (rngD 0 3) = .ok [D.str (nm (b / 7) 0), D.str (nm (b / 7) 1), D.str (nm (b / 7) 2)] := by
    intro p1 p2 p3 p4 p5 p6
    rw [lcD_rngD (f := fun k => D.str (nm (b / 7) k))]
    · rfl
    · intro k hk
      exact ⟨_, by simp; rfl, by simp, by simp [e1, name_val (b / 7) k (by omega)]⟩
  have hr : rngOk 3 := rngOk_of (by decide) (by decide)
  have l3 : 3 ≤ sizeLine := small_line (by omega)
  refine ⟨nm (c / 4) 0, nm (b / 7), lo, lo + sp, sp, ?_, ⟨fun i j hi hj h => nm_inj (by omega) (by omega) h, fun k => nm_lay _ k⟩, by omega⟩
  have hbr : brs (nm (b / 7)) (SHk (nm (c / 4) 0) lo (lo + sp)) 3 = [.tup [.str (nm (b / 7) 0), shW lo (lo + sp)], .tup [.str (nm (b / 7) 1), shR (shU (nm (c / 4) 0)) (shU (nm (c / 4) 0))], .tup [.str (nm (b / 7) 2), shM (shU (nm (c / 4) 0))]] := rfl
  apply runD_rt
  simp [wipeD, e0, e1, n0, hsp, hlo, hm5, z, hr, l3, BK, PK, shP, hbr, shW, shR, shU, shM]
section
variable {N0 : Str} {M : Nat → Str} {lo hi : Int} {w : Nat}
theorem compared_val (C : Cfg M) (hw : (w : Int) = hi - lo) {t u : Tn} (ht : GT w t) (hu : GT w u) : S_compared [BK N0 M lo hi, shU N0, t.enc M lo, u.enc M lo] = .ok (.int (ord t u)) := by
  have f1 := (facts (N0 := N0) C hw 10 t ht.1 ht.2).fit.at (m := 80) (by decide)
  have f2 := (facts (N0 := N0) C hw 10 u hu.1 hu.2).fit.at (m := 80) (by decide)
  have o := ordF (N0 := N0) C hw 10 t u (by decide) ht.1 hu.1 ht.2 hu.2 30
  apply runD_rt
  simp [forD, L_compared_0, f1, f2, o]
theorem gIx_ent0 (t : Tn) : gIx (ent M lo t) (.int 0) = some (t.enc M lo) := by simp [ent]
theorem gIx_ent1 (t : Tn) : gIx (ent M lo t) (.int 1) = some (.int (t.sz : Nat)) := by simp [ent]
theorem whole_val (i : Int) : S_l_whole [.int i] = .ok (.bl true) := whole_int i
theorem inner_loop (C : Cfg M) (hw : (w : Int) = hi - lo) (S : D) (rows : List D) {t : Tn} (ht : GT w t) : ∀ (l : List Tn) (acc : List D) (y5 y6 y7 : Fs.Slot), (∀ u ∈ l, GT w u) → acc.length + l.length ≤ 1000 →
    ∃ z5 z6 z7, forD (.nm 5) L_l_table_1 (l.map (ent M lo)) [.v (BK N0 M lo hi), .v S, .own rows, .v (ent M lo t), .own acc, y5, y6, y7] = .nx [.v (BK N0 M lo hi), .v S, .own rows, .v (ent M lo t), .own (acc ++ l.map fun u => D.int (ord t u)), z5, z6, z7]
  | [], acc, y5, y6, y7, _, _ => ⟨y5, y6, y7, by simp [forD]⟩
  | u :: l, acc, y5, y6, y7, hl, hn => by
    have hu := hl u (by simp)
    obtain ⟨z5, z6, z7, ih⟩ := inner_loop C hw S rows ht l (acc ++ [.int (ord t u)]) (.v (ent M lo u)) (.v (.lst [t.enc M lo, u.enc M lo])) (.v (.int (ord t u))) (fun v hv => hl v (by simp [hv])) (by simp at hn ⊢; omega)
    refine ⟨z5, z6, z7, ?_⟩
    have c1 := (facts (N0 := N0) C hw 10 t ht.1 ht.2).cpy 59
    have c2 := (facts (N0 := N0) C hw 10 u hu.1 hu.2).cpy 59
    have cm := compared_val (N0 := N0) C hw ht hu
    have hself : gNe (.lst [t.enc M lo, u.enc M lo]) (.lst [t.enc M lo, u.enc M lo]) = some (.bl false) := by
      have := eqO_self (k := 21) (xs := [t.enc M lo, u.enc M lo]) (eqk_lst fun x hx => by
        simp only [List.mem_cons, List.not_mem_nil, or_false] at hx
        rcases hx with rfl | rfl
        · exact ek_enc C lo t (by have := ht.1; omega)
        · exact ek_enc C lo u (by have := hu.1; omega)) (by decide)
      simp [gNe, this]
    have i1 : gIx (BK N0 M lo hi) (.int 0) = some (.tup [.str N0, PK N0 M lo hi]) := by simp [BK]
    have w1 := whole_val (ord t u)
    have hnin : gNin (.int (ord t u)) (.lst [.int (-1), .int 0, .int 1]) = some (.bl false) := by
      rcases ord_three t u with h | h | h <;> rw [h] <;> simp [gNin, gIn, intsOf]
    have l1 : acc.length + 1 ≤ sizeLine := small_line (by simp at hn; omega)
    have l2 : acc.length < sizeLine := l1
    simp only [shU] at cm
    obtain ⟨B, hB⟩ : ∃ B, BK N0 M lo hi = B := ⟨_, rfl⟩
    rw [hB] at i1 cm ih ⊢
    have e2 : L_l_table_1 [.v B, .v S, .own rows, .v (ent M lo t), .own acc, .v (ent M lo u), y6, y7] = .nx [.v B, .v S, .own rows, .v (ent M lo t), .own (acc ++ [.int (ord t u)]), .v (ent M lo u), .v (.lst [t.enc M lo, u.enc M lo]), .v (.int (ord t u))] := by
      simp [L_l_table_1, gIx_ent0, c1, c2, i1, cm, w1, hnin, hself, l1, l2]
    rw [List.map_cons, forD]
    simp only [v_nm, List.set_cons_succ, List.set_cons_zero, e2, ih]
    simp
def rowD (ss : List Tn) (t : Tn) : D := .lst (ss.map fun u => D.int (ord t u))
theorem outer_loop (C : Cfg M) (hw : (w : Int) = hi - lo) (ss : List Tn) (hs : ∀ u ∈ ss, GT w u) (hn : ss.length ≤ 4) : ∀ (l : List Tn) (acc : List D) (y3 y4 y5 y6 y7 : Fs.Slot), (∀ u ∈ l, GT w u) → acc.length + l.length ≤ 1000 →
    ∃ z3 z4 z5 z6 z7, forD (.nm 3) L_l_table_0 (l.map (ent M lo)) [.v (BK N0 M lo hi), .v (.lst (ss.map (ent M lo))), .own acc, y3, y4, y5, y6, y7] = .nx [.v (BK N0 M lo hi), .v (.lst (ss.map (ent M lo))), .own (acc ++ l.map (rowD ss)), z3, z4, z5, z6, z7]
  | [], acc, y3, y4, y5, y6, y7, _, _ => ⟨y3, y4, y5, y6, y7, by simp [forD]⟩
  | t :: l, acc, y3, y4, y5, y6, y7, hl, ha => by
    obtain ⟨z5, z6, z7, e⟩ := inner_loop (N0 := N0) C hw (.lst (ss.map (ent M lo))) acc (hl t (by simp)) ss [] y5 y6 y7 hs (by simp; omega)
    obtain ⟨u3, u4, u5, u6, u7, ih⟩ := outer_loop C hw ss hs hn l (acc ++ [rowD ss t]) (.v (ent M lo t)) (.v (rowD ss t)) z5 z6 z7 (fun v hv => hl v (by simp [hv])) (by simp at ha ⊢; omega)
    refine ⟨u3, u4, u5, u6, u7, ?_⟩
    have l1 : acc.length + 1 ≤ sizeLine := small_line (by simp at ha; omega)
    have l2 : acc.length < sizeLine := l1
    have e2 : L_l_table_0 [.v (BK N0 M lo hi), .v (.lst (ss.map (ent M lo))), .own acc, .v (ent M lo t), y4, y5, y6, y7] = .nx [.v (BK N0 M lo hi), .v (.lst (ss.map (ent M lo))), .own (acc ++ [rowD ss t]), .v (ent M lo t), .v (rowD ss t), z5, z6, z7] := by
      obtain ⟨B, hB⟩ : ∃ B, BK N0 M lo hi = B := ⟨_, rfl⟩
      rw [hB] at e ⊢
      rw [List.nil_append] at e
      simp [L_l_table_0, e, l1, l2, rowD]
    rw [List.map_cons, forD]
    simp only [v_nm, List.set_cons_succ, List.set_cons_zero, e2, ih]
    simp
theorem table_val (C : Cfg M) (hw : (w : Int) = hi - lo) (ss : List Tn) (hs : ∀ u ∈ ss, GT w u) (hn : ss.length ≤ 4) : S_l_table [BK N0 M lo hi, .lst (ss.map (ent M lo))] = .ok (.lst (ss.map (rowD ss))) := by
  obtain ⟨z3, z4, z5, z6, z7, e⟩ := outer_loop (N0 := N0) C hw ss hs hn ss [] .un .un .un .un .un hs (by simp; omega)
  rw [List.nil_append] at e
  obtain ⟨B, hB⟩ : ∃ B, BK N0 M lo hi = B := ⟨_, rfl⟩
  rw [hB] at e ⊢
  apply runD_rt
  simp [e]
theorem order_law (C : Cfg M) (ss : List Tn) (hs : ∀ u ∈ ss, GT w u) (hn : ss.length ≤ 4) : S_l_in_order [.lst (ss.map (rowD ss)), .lst (ss.map (ent M lo))] = .ok (.bl true) := by
  obtain ⟨n, hn'⟩ : ∃ n, ss.length = n := ⟨_, rfl⟩
  obtain ⟨T, hT⟩ : ∃ T : Nat → Tn, ∀ k (h : k < n), T k = ss[k]'(by omega) := ⟨fun k => if h : k < n then ss[k]'(by omega) else .leaf 0, fun k h => by simp [h]⟩
  have hG : ∀ k, k < n → GT w (T k) := fun k h => by rw [hT k h]; exact hs _ (List.getElem_mem _)
  have a1 : ∀ k, k < n → atI (ss.map (rowD ss)) (k : Int) = some (rowD ss (T k)) := fun k h => by
    rw [atI_ofNat _ (by rw [List.length_map]; omega), List.getElem_map, hT k h]
  have a2 : ∀ t k, k < n → gIx (rowD ss t) (.int (k : Int)) = some (.int (ord t (T k))) := fun t k h => by
    show atI (ss.map fun u => D.int (ord t u)) (k : Int) = _
    rw [atI_ofNat _ (by rw [List.length_map]; omega), List.getElem_map, hT k h]
  have a3 : ∀ k, k < n → atI (ss.map (ent M lo)) (k : Int) = some (ent M lo (T k)) := fun k h => by
    rw [atI_ofNat _ (by rw [List.length_map]; omega), List.getElem_map, hT k h]
  have hr : rngOk (n : Int) := rngOk_nat (by omega)
  have ln : n ≤ sizeLine := small_line (by omega)
  obtain ⟨R, hR⟩ : ∃ R, ss.map (rowD ss) = R := ⟨_, rfl⟩
  obtain ⟨E, hE⟩ : ∃ E, ss.map (ent M lo) = E := ⟨_, rfl⟩
  have hEl : E.length = n := by rw [← hE, List.length_map, hn']
  rw [hR] at a1 ⊢
  rw [hE] at a3 ⊢
  have b2 : ∀ i j, i < n → j < n → ∀ y4, ∃ z4, forD (.nm 4) L_l_in_order_2 (rngD 0 n) [.v (.lst R), .v (.lst E), .v (.int (i : Nat)), .v (.int (j : Nat)), y4] = .nx [.v (.lst R), .v (.lst E), .v (.int (i : Nat)), .v (.int (j : Nat)), z4] := by
    intro i j hi hj y4
    obtain ⟨δ', e, z4, rfl⟩ := forR (p := .nm 4) (body := L_l_in_order_2) (lo := 0) (n := n) (δ := [.v (.lst R), .v (.lst E), .v (.int (i : Nat)), .v (.int (j : Nat)), y4])
      (fun _ δ => ∃ z4, δ = [.v (.lst R), .v (.lst E), .v (.int (i : Nat)), .v (.int (j : Nat)), z4]) ⟨y4, rfl⟩
      (fun k δ hk => by
        rintro ⟨z4, rfl⟩
        refine ⟨_, by simp; rfl, [.v (.lst R), .v (.lst E), .v (.int (i : Nat)), .v (.int (j : Nat)), .v (.int (k : Nat))], ?_, _, rfl⟩
        by_cases h1 : ord (T i) (T j) ≤ 0
        · by_cases h2 : ord (T j) (T k) ≤ 0
          · have h3 := ord_trans _ _ _ h1 h2
            have h4 : ¬ 0 < ord (T i) (T k) := by omega
            simp [L_l_in_order_2, a1 i hi, a1 j hj, a2 _ j hj, a2 _ k hk, h1, h2, h4]
          · simp [L_l_in_order_2, a1 i hi, a1 j hj, a2 _ j hj, a2 _ k hk, h1, h2]
        · simp [L_l_in_order_2, a1 i hi, a1 j hj, a2 _ j hj, a2 _ k hk, h1])
    exact ⟨z4, e⟩
  have b1 : ∀ i, i < n → ∀ y3 y4, ∃ z3 z4, forD (.nm 3) L_l_in_order_1 (rngD 0 n) [.v (.lst R), .v (.lst E), .v (.int (i : Nat)), y3, y4] = .nx [.v (.lst R), .v (.lst E), .v (.int (i : Nat)), z3, z4] := by
    intro i hi y3 y4
    obtain ⟨δ', e, z3, z4, rfl⟩ := forR (p := .nm 3) (body := L_l_in_order_1) (lo := 0) (n := n) (δ := [.v (.lst R), .v (.lst E), .v (.int (i : Nat)), y3, y4])
      (fun _ δ => ∃ z3 z4, δ = [.v (.lst R), .v (.lst E), .v (.int (i : Nat)), z3, z4]) ⟨y3, y4, rfl⟩
      (fun j δ hj => by
        rintro ⟨z3, z4, rfl⟩
        obtain ⟨u4, eu⟩ := b2 i j hi hj z4
        refine ⟨_, by simp; rfl, [.v (.lst R), .v (.lst E), .v (.int (i : Nat)), .v (.int (j : Nat)), u4], ?_, _, _, rfl⟩
        have ee := eq_enc C lo (T i) (T j) (by have := (hG i hi).1; omega) (by have := (hG j hj).1; omega)
        have an := ord_anti (T i) (T j)
        have hs2 : (T i).sz < (T j).sz → ord (T i) (T j) = -1 := fun h => by
          rw [ord_ne (by omega)]
          unfold sgn
          rw [if_neg (by omega), if_pos (by omega)]
        by_cases h : (T i).sz < (T j).sz
        · have h' := hs2 h
          have h'' : ord (T j) (T i) = 1 := by omega
          rw [h'] at ee
          simp [L_l_in_order_1, a1 i hi, a1 j hj, a2 _ j hj, a2 _ i hi, a3 i hi, a3 j hj, gIx_ent0, gIx_ent1, ee, h, h', h'', hEl, hr, ln, eu]
        · obtain ⟨r, hr2⟩ : ∃ r, ord (T j) (T i) = r := ⟨_, rfl⟩
          rw [hr2] at an
          rw [an] at ee
          simp [L_l_in_order_1, a1 i hi, a1 j hj, a2 _ j hj, a2 _ i hi, a3 i hi, a3 j hj, gIx_ent0, gIx_ent1, ee, h, an, hr2, hEl, hr, ln, eu])
    exact ⟨z3, z4, e⟩
  obtain ⟨δ', e, z2, z3, z4, rfl⟩ := forR (p := .nm 2) (body := L_l_in_order_0) (lo := 0) (n := n) (δ := [.v (.lst R), .v (.lst E), .un, .un, .un])
    (fun _ δ => ∃ z2 z3 z4, δ = [.v (.lst R), .v (.lst E), z2, z3, z4]) ⟨.un, .un, .un, rfl⟩
    (fun i δ hi => by
      rintro ⟨z2, z3, z4, rfl⟩
      obtain ⟨u3, u4, eu⟩ := b1 i hi z3 z4
      refine ⟨_, by simp; rfl, [.v (.lst R), .v (.lst E), .v (.int (i : Nat)), u3, u4], ?_, _, _, _, rfl⟩
      simp [L_l_in_order_0, hEl, hr, ln, eu])
  apply runD_rt
  simp [hEl, hr, ln, e]
end
theorem law_true (ns : List Int) (h : ns.length ≤ 63) : S_law [.lst (ns.map D.int)] = .ok (.bl true) := by
  obtain ⟨N0, M, lo, hi, w, eB, C, hw⟩ := book_val ns
  obtain ⟨cs, hcs⟩ : ∃ cs, cutL ns (some 2) (some 63) = cs := ⟨_, rfl⟩
  have hcl : cs.length ≤ 61 := by
    have := cutL_nn ns 2 63
    push_cast at this
    rw [← hcs, this, List.length_take]
    omega
  have i1 : gIx (BK N0 M lo hi) (.int 0) = some (.tup [.str N0, PK N0 M lo hi]) := by simp [BK]
  have i2 : gIx (PK N0 M lo hi) (.int 1) = some (.tup (brs M (SHk N0 lo hi) 3)) := by simp [PK, shP]
  have i3 : atI (brs M (SHk N0 lo hi) 3) 0 = some (.tup [.str (M 0), shW lo hi]) := brs_at M (SHk N0 lo hi) (k := 0) (by decide)
  obtain ⟨t0, f0, g0⟩ := leaf_val (M := M) hw 0
  obtain ⟨t1, f1, g1⟩ := leaf_val (M := M) hw 1
  obtain ⟨P, hP⟩ : ∃ P, brs M (SHk N0 lo hi) 3 = P := ⟨_, rfl⟩
  have zL : ∀ p0 p1 p3 p4 p5 p6, lcD (.nm 7) tTrue (eCall S_l_leaf (aCons (eBin gIx (eV 2) (eC (.int 0))) (aCons (eV 7) aNil))) [p0, p1, .v (.tup P), p3, p4, p5, p6, .un] (rngD 0 2) = .ok ([t0, t1].map (ent M lo)) := by
    intro p0 p1 p3 p4 p5 p6
    rw [← hP, lcD_rngD (f := fun k => if k = 0 then ent M lo t0 else ent M lo t1)]
    · rfl
    · intro k hk
      have : k = 0 ∨ k = 1 := by omega
      rcases this with rfl | rfl
      · exact ⟨_, by simp; rfl, by simp, by simp [i3, f0]⟩
      · exact ⟨_, by simp; rfl, by simp, by simp [i3, f1]⟩
  obtain ⟨B, hB⟩ : ∃ B, BK N0 M lo hi = B := ⟨_, rfl⟩
  obtain ⟨δ', e, ts, y4, g2, g3, rfl⟩ := forL (p := .nm 4) (body := L_law_0) (xs := cs) (δ := [.v (.lst (ns.map D.int)), .v B, .v (.tup P), .v (.lst ([t0, t1].map (ent M lo))), .un, .un, .un, .un])
    (fun i δ => ∃ (ts : List Tn) (y4 : Fs.Slot), (∀ t ∈ ts, GT w t) ∧ ts.length ≤ 2 + i ∧ δ = [.v (.lst (ns.map D.int)), .v B, .v (.tup P), .v (.lst (ts.map (ent M lo))), y4, .un, .un, .un])
    ⟨[t0, t1], .un, fun t ht => by
      simp only [List.mem_cons, List.not_mem_nil, or_false] at ht
      rcases ht with rfl | rfl
      · exact g0
      · exact g1, by simp, rfl⟩
    (fun i hi' δ => by
      rintro ⟨ts, y4, g2, g3, rfl⟩
      obtain ⟨c, hc⟩ : ∃ c, cs[i] = c := ⟨_, rfl⟩
      rw [hc]
      obtain ⟨us, u1, u2, u3, u4⟩ := put_val (N0 := N0) C hw ts g2 (by omega) c
      rw [hP] at u1
      exact ⟨_, by simp; rfl, [.v (.lst (ns.map D.int)), .v B, .v (.tup P), .v (.lst (us.map (ent M lo))), .v (.int c), .un, .un, .un], by simp [L_law_0, u1], us, .v (.int c), u2, by omega, rfl⟩)
  have hr2 : rngOk 2 := rngOk_of (by decide) (by decide)
  have l2 : 2 ≤ sizeLine := small_line (by omega)
  obtain ⟨ss, hss, hs1, hs2⟩ : ∃ ss : List Tn, cutD (ts.map (ent M lo)) (some (-4)) none = ss.map (ent M lo) ∧ (∀ t ∈ ss, GT w t) ∧ ss.length ≤ 4 := by
    refine ⟨cutL ts (some (-4)) none, ?_, fun t ht => g2 t (cutL_sub ht), ?_⟩
    · show cutL (ts.map (ent M lo)) (some (-4)) none = _
      simp only [cutL, List.length_map, List.map_take, List.map_drop]
    · simp only [cutL, HT.sIx_none, List.length_take, List.length_drop]
      simp only [HT.sIx]
      rw [if_pos (by decide)]
      omega
  have tv := table_val (N0 := N0) C hw ss hs1 hs2
  have ov := order_law (lo := lo) C ss hs1 hs2
  rw [hP] at i2
  rw [hB] at eB i1 tv
  have hl0 : ((([t0, t1] : List Tn).map (ent M lo)).length) = 2 := rfl
  simp only [List.map_cons, List.map_nil] at e
  have nn : ∀ xs, gNotN (.lst xs) .non = some (.bl true) := fun _ => rfl
  apply runD_rt
  simp [wipeD, eB, i1, i2, hr2, l2, zL, hcs, e, hss, tv, ov, nn]
end Law

open PySem PySem.W
set_option maxRecDepth 100000 in
set_option maxHeartbeats 0 in
theorem PySem.Challenge.cw_countgen_k27_trees_in_order_holds : PySem.Challenge.rw_countgen_k27_trees_in_order.Holds := by
  w_on; o_law; k_head; (case hw => w_witness2)
  k_fill
  refine L2.walk_of (l := PySem.Challenge.rw_countgen_k27_trees_in_order) (n := 63) (k := 164) (x := "_law_script") (CX := fun w => L2.CX (PySem.W.OpenLaw.prog PySem.Challenge.rw_countgen_k27_trees_in_order) w) (sp := fun w => Fs.spD _ (fun _ => 0) 1 (Fs.hush Law.S_law)) rfl (by decide) rfl ⟨rfl, by decide, by decide⟩ (fun w h Y => PySem.W.kIn_of Y) ?F
    (fun w H a ns hl _ hS => Fs.law_sp hS (Fs.hush_ok (Law.law_true ns hl))) (fun _ _ _ _ _ h => Fs.law_cx h)
  case F =>
    intro w mg fa h KX G hmg
    refine' Law.all_mk KX G hmg ?c0 ?c1 ?c2 ?c3 ?c4 ?c5 ?c6 ?c7 ?c8 ?c9 ?c10 ?c11 ?c12 ?c13 ?c14 ?c15 ?c16 ?c17 ?c18 ?c19 ?c20 ?c21 ?c22 ?c23 ?c24 ?c25 ?c26 ?c27 ?c28 ?c29 ?c30 ?c31 ?c32 ?c33 ?c34 ?c35 ?c36 ?c37 ?c38 ?c39 ?c40 ?c41 ?c42 ?c43 ?c44 ?c45 ?c46 ?c47 ?c48 ?c49 ?c50 ?c51 ?c52 ?c53 ?c54 ?c55 ?c56 ?c57 ?c58 ?c59 ?c60 ?c61 ?c62 ?c63 ?c64 ?c65 ?c66 ?c67 ?c68 ?c69 ?c70 ?c71 ?c72 ?c73 ?c74 ?c75 ?c76 ?c77 ?c78 ?c79 ?c80 ?c81 ?c82 ?c83 ?c84 ?c85 ?c86 ?c87 ?c88 ?c89 ?c90 ?c91 ?c92 ?c93 ?c94 ?c95 ?c96 ?c97 ?c98 ?c99 ?c100 ?c101 ?c102 ?c103 ?c104 ?c105 ?c106 ?c107 ?c108 ?c109 ?c110 ?c111
    (case c0 => k_is); (case c1 => k_is); (case c2 => k_is); (case c3 => k_is); (case c4 => k_is); (case c5 => k_is); (case c6 => k_is); (case c7 => k_is); (case c8 => k_is); (case c9 => k_is); (case c10 => k_is); (case c11 => k_is); (case c12 => k_is); (case c13 => k_is); (case c14 => k_is); (case c15 => k_is); (case c16 => k_is); (case c17 => k_is); (case c18 => k_is); (case c19 => k_is); (case c20 => k_is); (case c21 => k_is); (case c22 => k_is); (case c23 => k_is); (case c24 => k_is); (case c25 => k_is); (case c26 => k_is); (case c27 => k_is); (case c28 => k_is); (case c29 => k_is); (case c30 => k_is); (case c31 => k_is); (case c32 => k_is); (case c33 => k_is); (case c34 => k_is); (case c35 => k_is); (case c36 => k_is); (case c37 => k_is); (case c38 => k_is); (case c39 => k_is); (case c40 => k_is); (case c41 => k_is); (case c42 => k_is); (case c43 => k_is); (case c44 => k_is); (case c45 => k_is); (case c46 => k_is); (case c47 => k_is); (case c48 => k_is); (case c49 => k_is); (case c50 => k_is); (case c51 => k_is); (case c52 => k_is); (case c53 => k_is); (case c54 => k_is); (case c55 => k_is); (case c56 => k_is); (case c57 => k_is); (case c58 => k_is); (case c59 => k_is); (case c60 => k_is); (case c61 => k_is); (case c62 => k_is); (case c63 => k_is); (case c64 => k_is); (case c65 => k_is); (case c66 => k_is); (case c67 => k_is); (case c68 => k_is); (case c69 => k_is); (case c70 => k_is); (case c71 => k_is); (case c72 => k_is); (case c73 => k_is); (case c74 => k_is); (case c75 => k_is); (case c76 => k_is); (case c77 => k_is); (case c78 => k_is); (case c79 => k_is); (case c80 => k_is); (case c81 => k_is); (case c82 => k_is); (case c83 => k_is); (case c84 => k_is); (case c85 => k_is); (case c86 => k_is); (case c87 => k_is); (case c88 => k_is); (case c89 => k_is); (case c90 => k_is); (case c91 => k_is); (case c92 => k_is); (case c93 => k_is); (case c94 => k_is); (case c95 => k_is); (case c96 => k_is); (case c97 => k_is); (case c98 => k_is); (case c99 => k_is); (case c100 => k_is); (case c101 => k_is); (case c102 => k_is); (case c103 => k_is); (case c104 => k_is); (case c105 => k_is); (case c106 => k_is); (case c107 => k_is); (case c108 => k_exc); (case c109 => k_is); (case c110 => k_is); (case c111 => k_is)
