import PyProof.Rows.All
import HandS.ForMost
import HandS.ForExc
import HandS.WideBits
import HandS.Wide
import HandS.Nested
import HandS.NestedK
import HandS.TupAny
import HandS.Conv
import PyProof.ListStr
import HandS.IsInst
import HandS.Style
import HandS.RevRange
import HandS.Codes
import HandS.Zip
import HandS.ExcValue
import HandS.HotCalls
import HandS.ExcIs
import HandS.Iter
import HandS.Dict
import HandS.ExcInit
import HandS.ExcField
import KE.KExcIs
import HandS.TryElse
import PySem.Challenge.RW_countgen_k62_drawn_values
set_option Elab.async false
set_option linter.all false
set_option maxRecDepth 100000
set_option autoImplicit false
/-! G1: data and a store of things that change; what stands for them in a heap; a step; a frame. -/
namespace Gs
open PySem L2

/-- the words of a def within a def: the def, its name, its long name, what it captures -/
structure Clo where
  st : Stmt
  name : Str
  qual : Str
  fr : List Str
inductive D where
  | non | bl (b : Bool) | int (i : Int) | str (x : Str) | tup (xs : List D) | lst (xs : List D) | dct (ks : List Key) (ds : List D)
  | ob (i : Nat) | fn (s : String) | ev (c : String) (ks : List Str) (ds : List D) | clo (k : Clo) (ds : List D)
instance : Inhabited D := ⟨.non⟩
/-- tab: the table of the code objects of the defs within a def; fK: a dict that is read alone from here on -/
inductive O where
  | lst (xs : List D) | dK (kvs : List (Key × D)) | dT (kvs : List (List Key × D)) | ins (c : String) (fs : List (Str × D)) | tab (x : String) (nm : Nat → Nat → Str) | fK (kvs : List (Key × D)) | gone
instance : Inhabited O := ⟨.gone⟩
abbrev Sto := List O
def O.live : O → Bool
  | .gone => false
  | .fK _ => false
  | _ => true
/-- an exception's object, of the class cls, with the own dict d -/
def EvO (cls : Value) (d : Option Addr) (a : Addr) : HO := .ext fun h => ∃ (oe : Obj) (vs : Array Value), h.get? a = some oe ∧ Zc cls d oe ∧ oe.data = .fields vs

/-- a cell that holds v -/
def CellO (c : Addr) (v : V) : HO := .ext fun h => ∃ u, RelV v u ∧ h.IsCell c (some u)
/-- G without these -/
def minus (G : Hp) (as : List Addr) : Hp := fun b => if b ∈ as then none else G b
/-- the cells of what a def within a def captures -/
structure CellsG (G : Hp) (cl : List (Str × Addr)) (fr : List Str) (vs : List V) : Prop where
  len : vs.length = fr.length
  inj : ∀ x y c, cl.lookup x = some c → cl.lookup y = some c → x = y
  all : ∀ y c, cl.lookup y = some c → y ∈ fr
  has : ∀ (i : Nat) (y : Str), fr[i]? = some y → ∃ c v, cl.lookup y = some c ∧ vs[i]? = some v ∧ ∃ o, G c = some (.frz o (CellO c v))
abbrev cads (cl : List (Str × Addr)) (fr : List Str) : List Addr := fr.filterMap fun y => cl.lookup y
mutual
inductive Rep (K : PySem.W.Frag) (ct : String → Addr) : Hp → (Nat → Option Addr) → D → V → Prop
  | non {G : Hp} {m : Nat → Option Addr} : Rep K ct G m .non .non
  | bl {G : Hp} {m : Nat → Option Addr} (b : Bool) : Rep K ct G m (.bl b) (.bl b)
  | int {G : Hp} {m : Nat → Option Addr} (i : Int) : Rep K ct G m (.int i) (.int i)
  | str {G : Hp} {m : Nat → Option Addr} (x : Str) : Rep K ct G m (.str x) (.str x)
  | fn {G : Hp} {m : Nat → Option Addr} (s : String) : Rep K ct G m (.fn s) (.ref (ct s))
  | ob {G : Hp} {m : Nat → Option Addr} {i : Nat} {a : Addr} : m i = some a → Rep K ct G m (.ob i) (.ref a)
  | clo {G : Hp} {m : Nat → Option Addr} {f : Addr} {F : NdefX.NF} {k : Clo} {vs : List V} {ds : List D} : G f = some (NdefX.FnO f F) → G F.c = some (LamX.CodeO F.c F.qual) → F = NdefX.NF.of k.st k.name k.qual F.cl F.c → CellsG G F.cl k.fr vs → RepL K ct (minus G (cads F.cl k.fr)) m ds vs → Rep K ct G m (.clo k ds) (.ref f)
  | tup {G : Hp} {m : Nat → Option Addr} {a : Addr} {vs : List V} {ds : List D} : SqT K G a vs → RepL K ct G m ds vs → Rep K ct G m (.tup ds) (.ref a)
  | lst {G : Hp} {m : Nat → Option Addr} {a : Addr} {vs : List V} {ds : List D} : SqL K G a vs → RepL K ct G m ds vs → Rep K ct G m (.lst ds) (.ref a)
  | dct {G : Hp} {m : Nat → Option Addr} {a : Addr} {vs : List V} {ks : List Key} {ds : List D} : G a = some (.dK (ks.zip vs)) → ks.length = ds.length → RepL K ct G m ds vs → Rep K ct G m (.dct ks ds) (.ref a)
  | ev0 {G : Hp} {m : Nat → Option Addr} {a : Addr} {c : String} : G a = some (EvO (.ref (ct c)) none a) → Rep K ct G m (.ev c [] []) (.ref a)
  | ev {G : Hp} {m : Nat → Option Addr} {a d : Addr} {vs : List V} {c : String} {ks : List Str} {ds : List D} : ks ≠ [] → G a = some (EvO (.ref (ct c)) (some d) a) → G d = some (.xd (ks.zip vs)) → ks.length = ds.length → RepL K ct G m ds vs → Rep K ct G m (.ev c ks ds) (.ref a)
inductive RepL (K : PySem.W.Frag) (ct : String → Addr) : Hp → (Nat → Option Addr) → List D → List V → Prop
  | nil {G : Hp} {m : Nat → Option Addr} : RepL K ct G m [] []
  | cons {G : Hp} {m : Nat → Option Addr} {d : D} {v : V} {ds : List D} {vs : List V} : Rep K ct G m d v → RepL K ct G m ds vs → RepL K ct G m (d :: ds) (v :: vs)
end

def Grow (m m' : Nat → Option Addr) : Prop := ∀ i a, m i = some a → m' i = some a
theorem Grow.refl {m : Nat → Option Addr} : Grow m m := fun _ _ h => h
theorem Grow.trans {m m1 m2 : Nat → Option Addr} (a : Grow m m1) (b : Grow m1 m2) : Grow m m2 := fun i x h => b i x (a i x h)

theorem rd_mono {G G' : Hp} {a : Addr} {u : HO} (e : Same G G') (h : Rd G a u) : Rd G' a u := by
  rcases h with h | ⟨o, h⟩
  · exact .inl (e _ _ h)
  · exact .inr ⟨o, e _ _ h⟩
theorem sqt_mono {K : PySem.W.Frag} {G G' : Hp} {a : Addr} {xs : List V} (e : Same G G') (h : SqT K G a xs) : SqT K G' a xs := by
  rcases h with h | h
  · exact .inl (rd_mono e h)
  · exact .inr h
section
variable {K : PySem.W.Frag} {ct : String → Addr} {G G' : Hp} {m m' : Nat → Option Addr}
theorem minus_mono {G G' : Hp} (e : Same G G') (as : List Addr) : Same (minus G as) (minus G' as) := fun b o h => by
  unfold minus at *
  split at h
  · exact nomatch h
  · rename_i z
    rw [if_neg z]
    exact e _ _ h
theorem CellsG.mono {G G' : Hp} {cl : List (Str × Addr)} {fr : List Str} {vs : List V} (e : Same G G') (c : CellsG G cl fr vs) : CellsG G' cl fr vs := ⟨c.len, c.inj, c.all, fun i y h => by
  obtain ⟨a, v, h1, h2, o, h3⟩ := c.has i y h
  exact ⟨a, v, h1, h2, o, e _ _ h3⟩⟩
mutual
theorem Rep.mono' : ∀ {G G' : Hp} {m m' : Nat → Option Addr} {d : D} {v : V}, Same G G' → Grow m m' → Rep K ct G m d v → Rep K ct G' m' d v
  | _, _, _, _, _, _, _, _, .non => .non
  | _, _, _, _, _, _, _, _, .bl b => .bl b
  | _, _, _, _, _, _, _, _, .int i => .int i
  | _, _, _, _, _, _, _, _, .str x => .str x
  | _, _, _, _, _, _, _, _, .fn a => .fn a
  | _, _, _, _, _, _, _, g, .ob h => .ob (g _ _ h)
  | _, _, _, _, _, _, e, g, .clo h1 h2 h3 h4 r => .clo (e _ _ h1) (e _ _ h2) h3 (h4.mono e) (RepL.mono' (minus_mono e _) g r)
  | _, _, _, _, _, _, e, g, .tup h r => .tup (sqt_mono e h) (RepL.mono' e g r)
  | _, _, _, _, _, _, e, g, .lst h r => .lst (e.seq h) (RepL.mono' e g r)
  | _, _, _, _, _, _, e, g, .dct h l r => .dct (e _ _ h) l (RepL.mono' e g r)
  | _, _, _, _, _, _, e, g, .ev0 h => .ev0 (e _ _ h)
  | _, _, _, _, _, _, e, g, .ev n h h2 l r => .ev n (e _ _ h) (e _ _ h2) l (RepL.mono' e g r)
theorem RepL.mono' : ∀ {G G' : Hp} {m m' : Nat → Option Addr} {ds : List D} {vs : List V}, Same G G' → Grow m m' → RepL K ct G m ds vs → RepL K ct G' m' ds vs
  | _, _, _, _, _, _, _, _, .nil => .nil
  | _, _, _, _, _, _, e, g, .cons h r => .cons (Rep.mono' e g h) (RepL.mono' e g r)
end
theorem Rep.mono (e : Same G G') (g : Grow m m') {d : D} {v : V} (h : Rep K ct G m d v) : Rep K ct G' m' d v := Rep.mono' e g h
theorem RepL.mono (e : Same G G') (g : Grow m m') {ds : List D} {vs : List V} (h : RepL K ct G m ds vs) : RepL K ct G' m' ds vs := RepL.mono' e g h
theorem RepL.length : ∀ {ds : List D} {vs : List V}, RepL K ct G m ds vs → ds.length = vs.length
  | _, _, .nil => rfl
  | _, _, .cons _ r => by simp [RepL.length r]
theorem RepL.get : ∀ {ds : List D} {vs : List V} {i : Nat} {d : D}, RepL K ct G m ds vs → ds[i]? = some d → ∃ v, vs[i]? = some v ∧ Rep K ct G m d v
  | _, _, 0, _, .cons h _, e => by simp at e; subst e; exact ⟨_, rfl, h⟩
  | _, _, i + 1, d, .cons _ r, e => by
    obtain ⟨v, h1, h2⟩ := RepL.get (i := i) (d := d) r (by simpa using e)
    exact ⟨v, by simpa using h1, h2⟩
theorem RepL.append : ∀ {ds es : List D} {vs us : List V}, RepL K ct G m ds vs → RepL K ct G m es us → RepL K ct G m (ds ++ es) (vs ++ us)
  | _, _, _, _, .nil, s => s
  | _, _, _, _, .cons h r, s => .cons h (RepL.append r s)
theorem RepL.one {d : D} {v : V} (h : Rep K ct G m d v) : RepL K ct G m [d] [v] := .cons h .nil
theorem RepL.set : ∀ {ds : List D} {vs : List V} {d : D} {v : V} (i : Nat), RepL K ct G m ds vs → Rep K ct G m d v → RepL K ct G m (ds.set i d) (vs.set i v)
  | _, _, _, _, _, .nil, _ => .nil
  | _, _, _, _, 0, .cons _ r, h => .cons h r
  | _, _, _, _, i + 1, .cons q r, h => .cons q (RepL.set i r h)
theorem RepL.take : ∀ {ds : List D} {vs : List V} (n : Nat), RepL K ct G m ds vs → RepL K ct G m (ds.take n) (vs.take n)
  | _, _, 0, _ => .nil
  | _, _, _ + 1, .nil => .nil
  | _, _, n + 1, .cons h r => .cons h (RepL.take n r)
theorem RepL.drop : ∀ {ds : List D} {vs : List V} (n : Nat), RepL K ct G m ds vs → RepL K ct G m (ds.drop n) (vs.drop n)
  | _, _, 0, r => r
  | _, _, _ + 1, .nil => .nil
  | _, _, n + 1, .cons _ r => RepL.drop n r
theorem RepL.reverse : ∀ {ds : List D} {vs : List V}, RepL K ct G m ds vs → RepL K ct G m ds.reverse vs.reverse
  | _, _, .nil => .nil
  | _, _, .cons h r => by
    rw [List.reverse_cons, List.reverse_cons]
    exact RepL.append (RepL.reverse r) (RepL.one h)
theorem RepL.erase : ∀ {ds : List D} {vs : List V} (i : Nat), RepL K ct G m ds vs → RepL K ct G m (ds.eraseIdx i) (vs.eraseIdx i)
  | _, _, _, .nil => .nil
  | _, _, 0, .cons _ r => r
  | _, _, i + 1, .cons q r => .cons q (RepL.erase i r)
theorem RepL.insert : ∀ {ds : List D} {vs : List V} {d : D} {v : V} (i : Nat), RepL K ct G m ds vs → Rep K ct G m d v → RepL K ct G m (ds.take i ++ d :: ds.drop i) (vs.take i ++ v :: vs.drop i) := fun i r h =>
  (r.take i).append (.cons h (r.drop i))
theorem RepL.ints : ∀ ns : List Int, RepL K ct G m (ns.map D.int) (ns.map V.int)
  | [] => .nil
  | n :: r => .cons (.int n) (RepL.ints r)
theorem RepL.of_ints : ∀ {ns : List Int} {vs : List V}, RepL K ct G m (ns.map D.int) vs → vs = ns.map V.int
  | [], _, .nil => rfl
  | _ :: _, _, .cons (.int _) r => by rw [RepL.of_ints r]; rfl
theorem RepL.of_bls : ∀ {bs : List Bool} {vs : List V}, RepL K ct G m (bs.map D.bl) vs → vs = bs.map V.bl
  | [], _, .nil => rfl
  | _ :: _, _, .cons (.bl _) r => by rw [RepL.of_bls r]; rfl
theorem RepL.of_strs : ∀ {bs : List Str} {vs : List V}, RepL K ct G m (bs.map D.str) vs → vs = bs.map V.str
  | [], _, .nil => rfl
  | _ :: _, _, .cons (.str _) r => by rw [RepL.of_strs r]; rfl
end
/-- pairs of a key and a thing -/
inductive RepP {κ : Type} (K : PySem.W.Frag) (ct : String → Addr) (G : Hp) (m : Nat → Option Addr) : List (κ × D) → List (κ × V) → Prop
  | nil : RepP K ct G m [] []
  | cons {x : κ} {d : D} {v : V} {ds : List (κ × D)} {vs : List (κ × V)} : Rep K ct G m d v → RepP K ct G m ds vs → RepP K ct G m ((x, d) :: ds) ((x, v) :: vs)
section
variable {κ : Type} {K : PySem.W.Frag} {ct : String → Addr} {G G' : Hp} {m m' : Nat → Option Addr}
theorem RepP.mono (e : Same G G') (g : Grow m m') {ds : List (κ × D)} {vs : List (κ × V)} (r : RepP K ct G m ds vs) : RepP K ct G' m' ds vs := by
  induction r with
  | nil => exact .nil
  | cons h _ ih => exact .cons (h.mono e g) ih
theorem RepP.length {ds : List (κ × D)} {vs : List (κ × V)} (r : RepP K ct G m ds vs) : ds.length = vs.length := by
  induction r with
  | nil => rfl
  | cons h _ ih => simp [ih]
theorem RepP.keys {ds : List (κ × D)} {vs : List (κ × V)} (r : RepP K ct G m ds vs) : ds.map (·.1) = vs.map (·.1) := by
  induction r with
  | nil => rfl
  | cons h _ ih => simp [ih]
theorem RepP.vals {ds : List (κ × D)} {vs : List (κ × V)} (r : RepP K ct G m ds vs) : RepL K ct G m (ds.map (·.2)) (vs.map (·.2)) := by
  induction r with
  | nil => exact .nil
  | cons h _ ih => exact .cons h ih
theorem RepP.zip : ∀ {ks : List κ} {ds : List D} {vs : List V}, RepL K ct G m ds vs → RepP K ct G m (ks.zip ds) (ks.zip vs)
  | [], _, _, _ => .nil
  | _ :: _, _, _, .nil => .nil
  | _ :: _, _, _, .cons h r => .cons h (RepP.zip r)
theorem RepP.append {ds es : List (κ × D)} {vs us : List (κ × V)} (r : RepP K ct G m ds vs) (s : RepP K ct G m es us) : RepP K ct G m (ds ++ es) (vs ++ us) := by
  induction r with
  | nil => exact s
  | cons h _ ih => exact .cons h ih
theorem RepP.lookup [BEq κ] {ds : List (κ × D)} {vs : List (κ × V)} {x : κ} (r : RepP K ct G m ds vs) : (ds.lookup x = none ∧ vs.lookup x = none) ∨ ∃ d v, ds.lookup x = some d ∧ vs.lookup x = some v ∧ Rep K ct G m d v := by
  induction r with
  | nil => exact .inl ⟨rfl, rfl⟩
  | @cons y d v ds vs h _ ih =>
    simp only [List.lookup_cons]
    cases e : x == y with
    | true => exact .inr ⟨d, v, rfl, rfl, h⟩
    | false => exact ih
end

/-- the frozen heap, the whole heap, where the things of the store stand, the store -/
structure Vw where
  G : Hp
  H : Hp
  m : Nat → Option Addr
  st : Sto
/-- b belongs to a thing of the store -/
def Vw.owns (v : Vw) (b : Addr) : Prop := ∃ (i : Nat) (o : O) (a : Addr), v.st[i]? = some o ∧ o.live = true ∧ v.m i = some a ∧ (b = a ∨ ∃ C fs, v.H a = some (.ins C b fs))
def ORep (K : PySem.W.Frag) (ct : String → Addr) (v : Vw) (a : Addr) : O → Prop
  | .lst xs => ∃ vs, v.H a = some (.lst vs) ∧ RepL K ct v.G v.m xs vs
  | .dK kvs => ∃ vs, v.H a = some (.dK vs) ∧ RepP K ct v.G v.m kvs vs
  | .dT kvs => ∃ vs, v.H a = some (.dT vs) ∧ RepP K ct v.G v.m kvs vs
  | .ins c fs => ∃ dx vs, v.H a = some (.ins (ct c) dx vs) ∧ v.H dx = some (.own a) ∧ v.G dx = none ∧ RepP K ct v.G v.m fs vs
  | .tab x nm => a = ct x ∧ ∃ ps, v.H a = some (.tbl ps) ∧ PySem.TriplesOk ps.toList ∧ ∀ (pos : Pos) (cv : Value), codeAmong pos ps.toList = some cv → ∃ c, cv = .ref c ∧ v.G c = some (LamX.CodeO c (nm pos.line pos.col))
  | .fK _ => False
  | .gone => True
/-- the dict that is read alone, at i -/
def FkR (K : PySem.W.Frag) (ct : String → Addr) (v : Vw) (i : Nat) (kvs : List (Key × D)) : Prop := ∃ a ob vs, v.m i = some a ∧ v.G a = some (.frz ob (.dK vs)) ∧ RepP K ct v.G v.m kvs vs
theorem FkR.mono {K : PySem.W.Frag} {ct : String → Addr} {v v' : Vw} {i : Nat} {kvs : List (Key × D)} (g : Same v.G v'.G) (m : Grow v.m v'.m) (r : FkR K ct v i kvs) : FkR K ct v' i kvs := by
  obtain ⟨a, ob, vs, h1, h2, h3⟩ := r
  exact ⟨a, ob, vs, m _ _ h1, g _ _ h2, h3.mono g m⟩
structure SR (K : PySem.W.Frag) (ct : String → Addr) (v : Vw) : Prop where
  sub : Same v.G v.H
  dom : ∀ i, v.st.length ≤ i → v.m i = none
  obj : ∀ (i : Nat) (o : O), v.st[i]? = some o → o.live = true → ∃ a, v.m i = some a ∧ v.G a = none ∧ ORep K ct v a o
  inj : ∀ (i j : Nat) (o u : O) (a : Addr), v.st[i]? = some o → v.st[j]? = some u → o.live = true → u.live = true → v.m i = some a → v.m j = some a → i = j
  fk : ∀ (i : Nat) (kvs : List (Key × D)), v.st[i]? = some (.fK kvs) → FkR K ct v i kvs
/-- a step: what was frozen is so still, what was tracked and is none of the store's stands -/
structure Le (v v' : Vw) : Prop where
  g : Same v.G v'.G
  m : Grow v.m v'.m
  h : ∀ b o, v.H b = some o → ¬ v.owns b → v'.H b = some o
  nw : ∀ b, v'.G b ≠ none → v.G b ≠ none ∨ v.H b = none ∨ v.owns b
  ow : ∀ b, v'.owns b → v.owns b ∨ v.H b = none
  al : ∀ b, v'.H b = none → v.H b = none
theorem same_none {H H' : Hp} (s : Same H H') (b : Addr) (h : H' b = none) : H b = none := s.free h
theorem Le.refl {v : Vw} : Le v v := ⟨Same.refl _, .refl, fun _ _ h _ => h, fun _ h => .inl h, fun _ h => .inl h, fun _ h => h⟩
theorem Le.trans {a b c : Vw} (x : Le a b) (y : Le b c) : Le a c := by
  have key : ∀ p, b.H p = none ∨ b.owns p → a.H p = none ∨ a.owns p := fun p z => by
    cases e : a.H p with
    | none => exact .inl rfl
    | some o =>
      by_cases q : a.owns p
      · exact .inr q
      · have h1 := x.h p o e q
        rcases z with z | z
        · rw [h1] at z; cases z
        · rcases x.ow p z with z | z
          · exact .inr z
          · rw [e] at z; cases z
  refine ⟨x.g.trans y.g, x.m.trans y.m, fun p o h n => ?_, fun p h => ?_, fun p h => ?_, fun p h => x.al p (y.al p h)⟩
  · refine y.h p o (x.h p o h n) fun z => ?_
    rcases x.ow p z with z | z
    · exact n z
    · rw [h] at z; cases z
  · rcases y.nw p h with z | z
    · exact x.nw p z
    · exact .inr (key p z)
  · rcases y.ow p h with z | z
    · exact x.ow p z
    · exact (key p (.inl z)).symm
theorem same_new {H : Hp} {p : Addr} (h : H p = none) (o : HO) : Same H (upd H p o) := fun b u q => by rw [upd_ne (ne_of_none q h)]; exact q
theorem same_upd {G H : Hp} {p : Addr} {o : HO} (s : Same G H) : Same (upd G p o) (upd H p o) := fun b u q => by
  unfold upd at *
  by_cases e : b = p
  · rw [if_pos e] at q ⊢
    exact q
  · rw [if_neg e] at q ⊢
    exact s _ _ q
section
variable {K : PySem.W.Frag} {ct : String → Addr}
theorem Le.rep {v v' : Vw} {d : D} {x : V} (l : Le v v') (r : Rep K ct v.G v.m d x) : Rep K ct v'.G v'.m d x := r.mono l.g l.m
theorem Le.repl {v v' : Vw} {d : List D} {x : List V} (l : Le v v') (r : RepL K ct v.G v.m d x) : RepL K ct v'.G v'.m d x := r.mono l.g l.m
theorem SR.obj_ne {v : Vw} (s : SR K ct v) {i : Nat} {o : O} {a : Addr} (h : v.st[i]? = some o) (l : o.live = true) (e : v.m i = some a) : v.G a = none ∧ ∃ u, v.H a = some u ∧ ∀ x, u ≠ .own x := by
  obtain ⟨a', e', g, r⟩ := s.obj i o h l
  rw [e] at e'
  cases e'
  refine ⟨g, ?_⟩
  cases o with
  | gone => cases l
  | lst xs => obtain ⟨vs, h, _⟩ := r; exact ⟨_, h, fun _ z => nomatch z⟩
  | dK xs => obtain ⟨vs, h, _⟩ := r; exact ⟨_, h, fun _ z => nomatch z⟩
  | dT xs => obtain ⟨vs, h, _⟩ := r; exact ⟨_, h, fun _ z => nomatch z⟩
  | ins c fs => obtain ⟨dx, vs, h, _⟩ := r; exact ⟨_, h, fun _ z => nomatch z⟩
  | tab x nm => obtain ⟨_, ps, h, _⟩ := r; exact ⟨_, h, fun _ z => nomatch z⟩
  | fK xs => cases l
/-- the own dict of an instance of the store -/
theorem SR.dx {v : Vw} (s : SR K ct v) {i : Nat} {o : O} {a C b : Addr} {fs : List (Str × V)} (h : v.st[i]? = some o) (l : o.live = true) (e : v.m i = some a) (hi : v.H a = some (.ins C b fs)) : v.H b = some (.own a) ∧ v.G b = none := by
  obtain ⟨a', e', g, r⟩ := s.obj i o h l
  rw [e] at e'
  cases e'
  cases o with
  | gone => cases l
  | lst xs => obtain ⟨vs, h, _⟩ := r; rw [hi] at h; cases h
  | dK xs => obtain ⟨vs, h, _⟩ := r; rw [hi] at h; cases h
  | dT xs => obtain ⟨vs, h, _⟩ := r; rw [hi] at h; cases h
  | tab x nm => obtain ⟨_, ps, h, _⟩ := r; rw [hi] at h; cases h
  | fK xs => cases l
  | ins c fs =>
    obtain ⟨dx, vs, h, h2, h3, _⟩ := r
    rw [hi] at h
    cases h
    exact ⟨h2, h3⟩
/-- what is the store's is tracked and not frozen -/
theorem SR.owns_tracked {v : Vw} (s : SR K ct v) {b : Addr} (h : v.owns b) : v.G b = none ∧ ∃ u, v.H b = some u := by
  obtain ⟨i, o, a, e, l, em, h⟩ := h
  rcases h with rfl | ⟨C, fs, h⟩
  · obtain ⟨g, u, hu, _⟩ := s.obj_ne e l em
    exact ⟨g, u, hu⟩
  · obtain ⟨h1, h2⟩ := s.dx e l em h
    exact ⟨h2, _, h1⟩
theorem SR.not_owned {v : Vw} (s : SR K ct v) {b : Addr} (h : v.H b = none) : ¬ v.owns b := fun z => by
  obtain ⟨_, u, hu⟩ := s.owns_tracked z
  rw [h] at hu
  cases hu
theorem ORep.mono' {v v' : Vw} {a : Addr} {o : O} (g : Same v.G v'.G) (m : Grow v.m v'.m) (ha : v'.H a = v.H a) (hd : ∀ C dx fs, v.H a = some (.ins C dx fs) → v.H dx = some (.own a) → v.G dx = none → v'.H dx = v.H dx ∧ v'.G dx = none) (r : ORep K ct v a o) : ORep K ct v' a o := by
  cases o with
  | gone => trivial
  | lst xs => obtain ⟨vs, h, r⟩ := r; exact ⟨vs, ha.trans h, r.mono g m⟩
  | dK xs => obtain ⟨vs, h, r⟩ := r; exact ⟨vs, ha.trans h, r.mono g m⟩
  | dT xs => obtain ⟨vs, h, r⟩ := r; exact ⟨vs, ha.trans h, r.mono g m⟩
  | fK xs => exact r
  | tab x nm =>
    obtain ⟨e, ps, h, t, r⟩ := r
    exact ⟨e, ps, ha.trans h, t, fun pos cv q => by
      obtain ⟨c, e1, e2⟩ := r pos cv q
      exact ⟨c, e1, g _ _ e2⟩⟩
  | ins c fs =>
    obtain ⟨dx, vs, h, h2, h3, r⟩ := r
    obtain ⟨h4, h5⟩ := hd _ _ _ h h2 h3
    exact ⟨dx, vs, ha.trans h, h4.trans h2, h5, r.mono g m⟩
theorem SR.free {v : Vw} (s : SR K ct v) {p : Addr} (h : v.H p = none) : v.G p = none := s.sub.free h
/-- the heaps go on, the store is as it was -/
theorem grow_ok {v : Vw} {G' H' : Hp} (s : SR K ct v) (hg : Same v.G G') (hh : Same v.H H') (sub : Same G' H') (nw : ∀ b, G' b ≠ none → v.G b ≠ none ∨ v.H b = none) : Le v ⟨G', H', v.m, v.st⟩ ∧ SR K ct ⟨G', H', v.m, v.st⟩ := by
  have keepG : ∀ b u, v.H b = some u → v.G b = none → G' b = none := fun b u h g => by
    cases z : G' b with
    | none => rfl
    | some w =>
      rcases nw b (by rw [z]; exact fun y => nomatch y) with y | y
      · exact absurd g y
      · rw [h] at y; cases y
  refine ⟨⟨hg, .refl, fun b u q _ => hh _ _ q, fun b q => (nw b q).imp id .inl, fun b ⟨i, u, a, e, l, em, q⟩ => ?_, same_none hh⟩, sub, s.dom, fun i u e l => ?_, s.inj, fun i kvs e => (s.fk i kvs e).mono hg .refl⟩
  · rcases q with rfl | ⟨C, fs, q⟩
    · exact .inl ⟨i, u, b, e, l, em, .inl rfl⟩
    · obtain ⟨_, w, hw, _⟩ := s.obj_ne e l em
      have q' : H' a = some (.ins C b fs) := q
      rw [hh _ _ hw] at q'
      cases q'
      exact .inl ⟨i, u, a, e, l, em, .inr ⟨C, fs, hw⟩⟩
  · obtain ⟨a, em, ga, r⟩ := s.obj i u e l
    obtain ⟨_, w, hw, _⟩ := s.obj_ne e l em
    exact ⟨a, em, keepG _ _ hw ga, r.mono' hg .refl ((hh _ _ hw).trans hw.symm) fun C dx fs _ q1 q2 => ⟨(hh _ _ q1).trans q1.symm, keepG _ _ q1 q2⟩⟩
/-- a new object at p, frozen -/
def Vw.new (v : Vw) (p : Addr) (o : HO) : Vw := ⟨upd v.G p o, upd v.H p o, v.m, v.st⟩
theorem new_ok {v : Vw} {p : Addr} {o : HO} (s : SR K ct v) (h : v.H p = none) : Le v (v.new p o) ∧ SR K ct (v.new p o) :=
  grow_ok s (same_new (s.free h) _) (same_new h _) (same_upd s.sub) fun b q => by
    by_cases z : b = p
    · exact .inr (z ▸ h)
    · rw [upd_ne z] at q
      exact .inl q
theorem more_ok {v : Vw} {H' : Hp} (s : SR K ct v) (h : Same v.H H') : Le v ⟨v.G, H', v.m, v.st⟩ ∧ SR K ct ⟨v.G, H', v.m, v.st⟩ :=
  grow_ok s (Same.refl _) h (s.sub.trans h) fun _ q => .inl q

/-! ### things of the store -/
def mset (m : Nat → Option Addr) (i : Nat) (a : Addr) : Nat → Option Addr := fun j => if j = i then some a else m j
theorem mset_same {m : Nat → Option Addr} {i : Nat} {a : Addr} : mset m i a i = some a := if_pos rfl
theorem mset_ne {m : Nat → Option Addr} {i j : Nat} {a : Addr} (h : j ≠ i) : mset m i a j = m j := if_neg h
theorem mset_grow {m : Nat → Option Addr} {i : Nat} {a : Addr} (h : m i = none) : Grow m (mset m i a) := fun j b e => by
  rw [mset_ne]
  · exact e
  · intro z; rw [z, h] at e; cases e
theorem get_snoc {st : Sto} {o u : O} {i : Nat} (e : (st ++ [o])[i]? = some u) : (i < st.length ∧ st[i]? = some u) ∨ (i = st.length ∧ u = o) := by
  by_cases z : i < st.length
  · rw [List.getElem?_append_left z] at e
    exact .inl ⟨z, e⟩
  · rw [List.getElem?_append_right (Nat.not_lt.mp z)] at e
    have h0 : i - st.length = 0 := by
      have := (List.getElem?_eq_some_iff.mp e).1
      simp only [List.length_cons, List.length_nil] at this
      omega
    rw [h0] at e
    simp only [List.getElem?_cons_zero, Option.some.injEq] at e
    exact .inr ⟨by omega, e.symm⟩
/-- a new thing of the store: its address, the heap with it -/
def Vw.alloc (v : Vw) (p : Addr) (H' : Hp) (o : O) : Vw := ⟨v.G, H', mset v.m v.st.length p, v.st ++ [o]⟩
theorem alloc_ok {v : Vw} {p : Addr} {H' : Hp} {o : O} (s : SR K ct v) (hp : v.H p = none) (hs : Same v.H H') (hn : ∀ C b fs, H' p = some (.ins C b fs) → v.H b = none)
    (r : ORep K ct (v.alloc p H' o) p o) : Le v (v.alloc p H' o) ∧ SR K ct (v.alloc p H' o) := by
  have m0 : v.m v.st.length = none := s.dom _ (Nat.le_refl _)
  have gr : Grow v.m (mset v.m v.st.length p) := mset_grow m0
  have np : ∀ {i : Nat} {u : O} {a : Addr}, v.st[i]? = some u → u.live = true → v.m i = some a → a ≠ p := fun e l em => by
    obtain ⟨_, w, hw, _⟩ := s.obj_ne e l em
    exact ne_of_none hw hp
  have get_snoc : ∀ {i : Nat} {u : O}, (v.alloc p H' o).st[i]? = some u → (i < v.st.length ∧ v.st[i]? = some u) ∨ (i = v.st.length ∧ u = o) := fun e => get_snoc e
  refine ⟨⟨Same.refl _, gr, fun b u q _ => hs _ _ q, fun b q => .inl q, fun b ⟨i, u, a, e, l, em, q⟩ => ?_, same_none hs⟩, s.sub.trans hs, fun i hi => ?_, fun i u e l => ?_, fun i j u w a e1 e2 l1 l2 m1 m2 => ?_, fun i kvs e => ?_⟩
  · have em' : mset v.m v.st.length p i = some a := em
    rcases get_snoc e with ⟨z, e⟩ | ⟨rfl, rfl⟩
    · rw [mset_ne (Nat.ne_of_lt z)] at em'
      rcases q with rfl | ⟨C, fs, q⟩
      · exact .inl ⟨i, u, b, e, l, em', .inl rfl⟩
      · obtain ⟨_, w, hw, _⟩ := s.obj_ne e l em'
        have q' : H' a = some (.ins C b fs) := q
        rw [hs _ _ hw] at q'
        cases q'
        exact .inl ⟨i, u, a, e, l, em', .inr ⟨C, fs, hw⟩⟩
    · rw [mset_same] at em'
      cases em'
      rcases q with rfl | ⟨C, fs, q⟩
      · exact .inr hp
      · exact .inr (hn C b fs q)
  · have hl : v.st.length + 1 ≤ i := by simpa [Vw.alloc] using hi
    show mset v.m v.st.length p i = none
    rw [mset_ne (by omega)]
    exact s.dom i (by omega)
  · rcases get_snoc e with ⟨z, e⟩ | ⟨rfl, rfl⟩
    · obtain ⟨a, em, ga, r⟩ := s.obj i u e l
      obtain ⟨_, w, hw, _⟩ := s.obj_ne e l em
      exact ⟨a, (mset_ne (Nat.ne_of_lt z)).trans em, ga, r.mono' (v := v) (v' := v.alloc p H' o) (Same.refl _) gr ((hs _ _ hw).trans hw.symm) fun C dx fs _ q1 q2 => ⟨(hs _ _ q1).trans q1.symm, q2⟩⟩
    · exact ⟨p, mset_same, s.free hp, r⟩
  · have m1' : mset v.m v.st.length p i = some a := m1
    have m2' : mset v.m v.st.length p j = some a := m2
    rcases get_snoc e1 with ⟨z1, f1⟩ | ⟨y1, f1⟩ <;> rcases get_snoc e2 with ⟨z2, f2⟩ | ⟨y2, f2⟩
    · rw [mset_ne (Nat.ne_of_lt z1)] at m1'
      rw [mset_ne (Nat.ne_of_lt z2)] at m2'
      exact s.inj i j u w a f1 f2 l1 l2 m1' m2'
    · rw [mset_ne (Nat.ne_of_lt z1)] at m1'
      rw [y2, mset_same] at m2'
      cases m2'
      exact absurd rfl (np f1 l1 m1')
    · rw [mset_ne (Nat.ne_of_lt z2)] at m2'
      rw [y1, mset_same] at m1'
      cases m1'
      exact absurd rfl (np f2 l2 m2')
    · rw [y1, y2]
  · rcases get_snoc e with ⟨_, f⟩ | ⟨_, f⟩
    · exact FkR.mono (v := v) (v' := v.alloc p H' o) (Same.refl _) gr (s.fk i kvs f)
    · subst f
      exact r.elim
/-- a thing of the store is changed, at its own address -/
def Vw.put (v : Vw) (i : Nat) (a : Addr) (u : HO) (o : O) : Vw := ⟨v.G, upd v.H a u, v.m, v.st.set i o⟩
theorem put_ok {v : Vw} {i : Nat} {a : Addr} {u : HO} {o o0 : O} (s : SR K ct v) (e0 : v.st[i]? = some o0) (l0 : o0.live = true) (em : v.m i = some a) (hn : ∀ C b fs, u = .ins C b fs → ∃ fs0, v.H a = some (.ins C b fs0))
    (r : ORep K ct (v.put i a u o) a o) : Le v (v.put i a u o) ∧ SR K ct (v.put i a u o) := by
  obtain ⟨ga, w0, hw0, no0⟩ := s.obj_ne e0 l0 em
  have own : v.owns a := ⟨i, o0, a, e0, l0, em, .inl rfl⟩
  have get : ∀ {j : Nat} {w : O}, (v.st.set i o)[j]? = some w → (j = i ∧ w = o) ∨ (j ≠ i ∧ v.st[j]? = some w) := fun {j w} e => by
    by_cases z : i = j
    · subst z
      rw [List.getElem?_set_self (List.getElem?_eq_some_iff.mp e0).1] at e
      exact .inl ⟨rfl, (Option.some.inj e).symm⟩
    · rw [List.getElem?_set_ne z] at e
      exact .inr ⟨fun q => z q.symm, e⟩
  refine ⟨⟨Same.refl _, .refl, fun b w q n => ?_, fun b q => .inl q, fun b ⟨j, w, a2, e, l, em2, q⟩ => ?_, fun b q => ?_⟩, fun b w q => ?_, fun j hj => s.dom j (by simpa [Vw.put] using hj), fun j w e l => ?_, fun j k w w2 a2 e1 e2 l1 l2 m1 m2 => ?_, fun j kvs e => ?_⟩
  · show upd v.H a u b = some w
    have z : b ≠ a := fun z => n (by rw [z]; exact own)
    rw [upd_ne z]
    exact q
  · rcases get e with ⟨rfl, rfl⟩ | ⟨z, e⟩
    · have em2' : v.m j = some a2 := em2
      rw [em] at em2'
      cases em2'
      rcases q with rfl | ⟨C, fs, q⟩
      · exact .inl own
      · have q' : upd v.H a u a = some (.ins C b fs) := q
        rw [upd_same] at q'
        obtain ⟨fs0, h0⟩ := hn C b fs (Option.some.inj q')
        exact .inl ⟨j, o0, a, e0, l0, em, .inr ⟨C, fs0, h0⟩⟩
    · have em2' : v.m j = some a2 := em2
      rcases q with rfl | ⟨C, fs, q⟩
      · exact .inl ⟨j, w, b, e, l, em2', .inl rfl⟩
      · have na : a2 ≠ a := fun zz => z (s.inj j i w o0 a e e0 l l0 (zz ▸ em2') em)
        have q' : upd v.H a u a2 = some (.ins C b fs) := q
        rw [upd_ne na] at q'
        exact .inl ⟨j, w, a2, e, l, em2', .inr ⟨C, fs, q'⟩⟩
  · have q' : upd v.H a u b = none := q
    by_cases z : b = a
    · rw [z, upd_same] at q'
      cases q'
    · rw [upd_ne z] at q'
      exact q'
  · show upd v.H a u b = some w
    have q' : v.G b = some w := q
    have z : b ≠ a := fun z => by rw [z, ga] at q'; cases q'
    rw [upd_ne z]
    exact s.sub _ _ q'
  · rcases get e with ⟨rfl, rfl⟩ | ⟨z, e⟩
    · exact ⟨a, em, ga, r⟩
    · obtain ⟨a2, em2, ga2, r2⟩ := s.obj j w e l
      have na : a2 ≠ a := fun zz => z (s.inj j i w o0 a e e0 l l0 (zz ▸ em2) em)
      refine ⟨a2, em2, ga2, r2.mono' (v := v) (v' := v.put i a u o) (Same.refl _) .refl (upd_ne na) fun C dx fs _ q1 q2 => ⟨upd_ne fun zz => ?_, q2⟩⟩
      rw [zz, hw0] at q1
      exact no0 _ (Option.some.inj q1)
  · rcases get e1 with ⟨y1, _⟩ | ⟨z1, f1⟩ <;> rcases get e2 with ⟨y2, _⟩ | ⟨z2, f2⟩
    · rw [y1, y2]
    · exact s.inj j k o0 w2 a2 (y1 ▸ e0) f2 l0 l2 m1 m2
    · exact s.inj j k w o0 a2 f1 (y2 ▸ e0) l1 l0 m1 m2
    · exact s.inj j k w w2 a2 f1 f2 l1 l2 m1 m2
  · rcases get e with ⟨_, f⟩ | ⟨_, f⟩
    · subst f
      exact r.elim
    · exact s.fk j kvs f
/-- a thing of the store is frozen, or forgotten -/
def Vw.frz (v : Vw) (i : Nat) (a : Addr) (u : HO) : Vw := ⟨upd v.G a u, v.H, v.m, v.st.set i .gone⟩
theorem frz_ok {v : Vw} {i : Nat} {a : Addr} {u : HO} {o0 : O} (s : SR K ct v) (e0 : v.st[i]? = some o0) (l0 : o0.live = true) (em : v.m i = some a) (hu : v.H a = some u) : Le v (v.frz i a u) ∧ SR K ct (v.frz i a u) := by
  obtain ⟨ga, w0, hw0, no0⟩ := s.obj_ne e0 l0 em
  have own : v.owns a := ⟨i, o0, a, e0, l0, em, .inl rfl⟩
  have get : ∀ {j : Nat} {w : O}, (v.st.set i .gone)[j]? = some w → w.live = true → j ≠ i ∧ v.st[j]? = some w := fun {j w} e l => by
    by_cases z : i = j
    · subst z
      rw [List.getElem?_set_self (List.getElem?_eq_some_iff.mp e0).1] at e
      cases e
      cases l
    · rw [List.getElem?_set_ne z] at e
      exact ⟨fun q => z q.symm, e⟩
  have sg := same_new ga u
  refine ⟨⟨sg, .refl, fun b w q n => q, fun b q => ?_, fun b ⟨j, w, a2, e, l, em2, q⟩ => ?_, fun b q => q⟩, fun b w q => ?_, fun j hj => s.dom j (by simpa [Vw.frz] using hj), fun j w e l => ?_, fun j k w w2 a2 e1 e2 l1 l2 m1 m2 => ?_, fun j kvs e => ?_⟩
  · by_cases z : b = a
    · exact .inr (.inr (z ▸ own))
    · have q' : upd v.G a u b ≠ none := q
      rw [upd_ne z] at q'
      exact .inl q'
  · obtain ⟨_, e⟩ := get e l
    exact .inl ⟨j, w, a2, e, l, em2, q⟩
  · by_cases z : b = a
    · have q' : upd v.G a u b = some w := q
      rw [z, upd_same] at q'
      cases q'
      show v.H b = some u
      rw [z]
      exact hu
    · have q' : upd v.G a u b = some w := q
      rw [upd_ne z] at q'
      exact s.sub _ _ q'
  · obtain ⟨z, e⟩ := get e l
    obtain ⟨a2, em2, ga2, r2⟩ := s.obj j w e l
    have na : a2 ≠ a := fun zz => z (s.inj j i w o0 a e e0 l l0 (zz ▸ em2) em)
    refine ⟨a2, em2, (upd_ne na).trans ga2, r2.mono' (v := v) (v' := v.frz i a u) sg .refl rfl fun C dx fs _ q1 q2 => ⟨rfl, (upd_ne fun zz => ?_).trans q2⟩⟩
    rw [zz, hw0] at q1
    exact no0 _ (Option.some.inj q1)
  · exact s.inj j k w w2 a2 (get e1 l1).2 (get e2 l2).2 l1 l2 m1 m2
  · by_cases z : i = j
    · subst z
      have e' : (v.st.set i .gone)[i]? = some (.fK kvs) := e
      rw [List.getElem?_set_self (List.getElem?_eq_some_iff.mp e0).1] at e'
      cases e'
    · have e' : (v.st.set i .gone)[j]? = some (.fK kvs) := e
      rw [List.getElem?_set_ne z] at e'
      exact FkR.mono (v := v) (v' := v.frz i a u) sg .refl (s.fk j kvs e')
end
end Gs

/-! G2: results, frames, expressions, tests, arguments. -/
namespace Gs
open PySem L2

structure Ex where
  cls : String
  fs : List (Str × D)
inductive R (α : Type) where
  | ok (a : α) (s : Sto) | exc (e : Ex) (s : Sto) | stk
def R.bind {α β : Type} (r : R α) (k : α → Sto → R β) : R β := match r with
  | .ok a s => k a s
  | .exc e s => .exc e s
  | .stk => .stk
def R.ofO {α : Type} (o : Option α) (s : Sto) : R α := match o with
  | some a => .ok a s
  | none => .stk

/-- what is fixed through a body: the view at its entry, the classes' addresses, what is wanted of an exception -/
structure Cc where
  v0 : Vw
  ct : String → Addr
  W : WX
/-- an exception's class and own dict -/
def RepX (K : PySem.W.Frag) (ct : String → Addr) (v : Vw) (e : Ex) (cls : Value) (dd : Option Addr) : Prop :=
  cls = .ref (ct e.cls) ∧ ((e.fs = [] ∧ dd = none) ∨ (e.fs ≠ [] ∧ ∃ d fs, dd = some d ∧ v.G d = some (.xd fs) ∧ RepP K ct v.G v.m e.fs fs))
abbrev Sl := List (Option D)
structure RE (K : PySem.W.Frag) (C : Cc) (σ : L2.St) (δ : Sl) (v : Vw) : Prop where
  le : Le C.v0 v
  sr : SR K C.ct v
  len : σ.length = δ.length
  sl : ∀ (i : Nat) (d : D), δ[i]? = some (some d) → ∃ x, σ[i]? = some (some x) ∧ Rep K C.ct v.G v.m d x
section
variable {K : PySem.W.Frag} {C : Cc} {σ : L2.St} {δ : Sl} {v v' : Vw}
theorem RE.step (r : RE K C σ δ v) (l : Le v v') (s : SR K C.ct v') : RE K C σ δ v' :=
  ⟨r.le.trans l, s, r.len, fun i d h => let ⟨x, e, q⟩ := r.sl i d h; ⟨x, e, l.rep q⟩⟩
theorem RE.setV {d : D} {x : V} (r : RE K C σ δ v) (i : Nat) (h : Rep K C.ct v.G v.m d x) : RE K C (σ.set i (some x)) (δ.set i (some d)) v := by
  refine ⟨r.le, r.sr, by simp [r.len], fun j e hs => ?_⟩
  by_cases z : i = j
  · subst z
    have hi : i < δ.length := by
      have := (List.getElem?_eq_some_iff.mp hs).1
      simpa using this
    rw [List.getElem?_set_self hi] at hs
    cases hs
    rw [List.getElem?_set_self (by rw [r.len]; exact hi)]
    exact ⟨x, rfl, h⟩
  · rw [List.getElem?_set_ne z] at hs
    rw [List.getElem?_set_ne z]
    exact r.sl j e hs
theorem RE.setU (r : RE K C σ δ v) (i : Nat) (x : Option V) : RE K C (σ.set i x) (δ.set i none) v := by
  refine ⟨r.le, r.sr, by simp [r.len], fun j e hs => ?_⟩
  by_cases z : i = j
  · subst z
    have hi : i < δ.length := by
      have := (List.getElem?_eq_some_iff.mp hs).1
      simpa using this
    rw [List.getElem?_set_self hi] at hs
    cases hs
  · rw [List.getElem?_set_ne z] at hs
    rw [List.getElem?_set_ne z]
    exact r.sl j e hs
end

/-! ### what is due of a result -/
def onX (K : PySem.W.Frag) (C : Cc) (σ : L2.St) (v : Vw) (e : Ex) (s : Sto) : Prop := ∀ cls dd v', Le v v' → SR K C.ct v' → v'.st = s → RepX K C.ct v' e cls dd → C.W cls dd σ v'.H
def on {α β : Type} (K : PySem.W.Frag) (C : Cc) (σ : L2.St) (v : Vw) (rel : α → β → Vw → Prop) (r : R α) (P : α → β → Vw → Prop) : Prop := match r with
  | .ok a s => ∀ b v', Le v v' → SR K C.ct v' → v'.st = s → rel a b v' → P a b v'
  | .exc e s => onX K C σ v e s
  | .stk => False
abbrev rE (K : PySem.W.Frag) (ct : String → Addr) : D → V → Vw → Prop := fun d x v => Rep K ct v.G v.m d x
abbrev rA (K : PySem.W.Frag) (ct : String → Addr) : List D → List V → Vw → Prop := fun d x v => RepL K ct v.G v.m d x
abbrev rB {α : Type} : α → α → Vw → Prop := fun a b _ => a = b
section
variable {α β γ ε : Type} {K : PySem.W.Frag} {C : Cc} {σ : L2.St} {v v' : Vw} {rel : α → β → Vw → Prop} {rel2 : γ → ε → Vw → Prop}
theorem on_step {r : R α} {P : α → β → Vw → Prop} (l : Le v v') (h : on K C σ v rel r P) : on K C σ v' rel r P := by
  cases r with
  | ok a s => exact fun b w l2 => h b w (l.trans l2)
  | exc e s => exact fun cls dd w l2 => h cls dd w (l.trans l2)
  | stk => exact h
theorem on_mono {r : R α} {P P' : α → β → Vw → Prop} (h : on K C σ v rel r P) (w : ∀ a b v', Le v v' → SR K C.ct v' → rel a b v' → P a b v' → P' a b v') : on K C σ v rel r P' := by
  cases r with
  | ok a s => exact fun b v' l sr e q => w a b v' l sr q (h b v' l sr e q)
  | exc e s => exact h
  | stk => exact h
/-- one after another -/
theorem on_bind {r : R α} {k : α → Sto → R γ} {P : γ → ε → Vw → Prop} (h : on K C σ v rel2 (r.bind k) P) : on K C σ v rel r fun a _ v1 => on K C σ v1 rel2 (k a v1.st) P := by
  cases r with
  | ok a s =>
    intro b v1 l sr e q
    subst e
    exact on_step l h
  | exc e s => exact h
  | stk => exact h
theorem on_self {a : α} {b : β} {P : α → β → Vw → Prop} (sr : SR K C.ct v) (h : on K C σ v rel (.ok a v.st) P) (r : rel a b v) : P a b v := h b v .refl sr rfl r
theorem on_ofO {o : Option α} {P : α → β → Vw → Prop} (h : on K C σ v rel (R.ofO o v.st) P) : ∃ a, o = some a ∧ ∀ b v', Le v v' → SR K C.ct v' → v'.st = v.st → rel a b v' → P a b v' := by
  cases o with
  | none => exact h.elim
  | some a => exact ⟨a, rfl, h⟩
end

abbrev E := Sl → Sto → R D
abbrev T := Sl → Sto → R Bool
abbrev As := Sl → Sto → R (List D)
def liftE (K : PySem.W.Frag) (C : Cc) (f : E) : TE := fun σ H Q => ∃ δ v, RE K C σ δ v ∧ v.H = H ∧ on K C σ v (rE K C.ct) (f δ v.st) fun _ x v' => Q x v'.H
def liftT (K : PySem.W.Frag) (C : Cc) (f : T) : TT := fun σ H Q => ∃ δ v, RE K C σ δ v ∧ v.H = H ∧ on K C σ v rB (f δ v.st) fun _ b v' => Q b v'.H
def liftA (K : PySem.W.Frag) (C : Cc) (f : As) : TA := fun σ H Q => ∃ δ v, RE K C σ δ v ∧ v.H = H ∧ on K C σ v (rA K C.ct) (f δ v.st) fun _ xs v' => Q xs v'.H
abbrev SE (X : Cx) (C : Cc) (e : Expr) (f : E) : Prop := PE X e (liftE X.K C f)
abbrev ST (X : Cx) (C : Cc) (e : Expr) (f : T) : Prop := PT X e (liftT X.K C f)
abbrev SA (X : Cx) (C : Cc) (es : List Expr) (f : As) : Prop := PA X es (liftA X.K C f)
theorem pe_weak {X : Cx} {e : Expr} {t t' : TE} (h : PE X e t) (w : ∀ σ H Q, t' σ H Q → t σ H Q) : PE X e t' := ⟨fun pins s σ H Q I z => h.run pins s σ H Q I (w σ H Q z)⟩
theorem pt_weak {X : Cx} {e : Expr} {t t' : TT} (h : PT X e t) (w : ∀ σ H Q, t' σ H Q → t σ H Q) : PT X e t' := ⟨fun pins s σ H Q I z => h.run pins s σ H Q I (w σ H Q z)⟩
theorem pw_weak {X : Cx} {e : Expr} {t t' : TT} (h : PW X e t) (w : ∀ σ H Q, t' σ H Q → t σ H Q) : PW X e t' := ⟨fun wh pins s σ H Q I z => h.run wh pins s σ H Q I (w σ H Q z)⟩
theorem pa_weak {X : Cx} {e : List Expr} {t t' : TA} (h : PA X e t) (w : ∀ σ H Q, t' σ H Q → t σ H Q) : PA X e t' := ⟨fun pos pins s σ H Q I z => h.run pos pins s σ H Q I (w σ H Q z)⟩

/-! ### names and constants -/
def eV (i : Nat) : E := fun δ s => match δ[i]? with
  | some (some d) => .ok d s
  | _ => .stk
def eC (d : D) : E := fun _ s => .ok d s
def eStk : E := fun _ _ => .stk
section
variable {X : Cx} {C : Cc} {pos : Pos}
theorem se_var (i : Nat) {x : Str} (hN : X.N[i]? = some x := by rfl) (hv : Vis X.env.scope x := by first | exact Or.inl rfl | exact Or.inr (Or.inl rfl) | exact Or.inr (Or.inr rfl)) (hd : (x == ("__debug__" : Str)) = false := by decide)
    (hcd : (x == ("__classdict__" : Str)) = false := by decide) : SE X C (.Name x pos) (eV i) :=
  pe_weak (pe_var hN hv hd hcd) fun σ H Q ⟨δ, v, re, eH, h⟩ => by
    subst eH
    unfold eV at h
    split at h
    · rename_i d e
      obtain ⟨x, ex, rx⟩ := re.sl i d e
      exact ⟨x, ex, on_self re.sr h rx⟩
    · exact h.elim
theorem se_const {e : Expr} {d : D} {x : V} (h : PE X e (fun _ H Q => Q x H)) (r : ∀ G m, Rep X.K C.ct G m d x) : SE X C e (eC d) :=
  pe_weak h fun σ H Q ⟨δ, v, re, eH, h⟩ => by subst eH; exact on_self re.sr h (r _ _)
theorem se_int {i : Int} {j : Nat} : SE X C (.Constant (.int i) j pos) (eC (.int i)) := se_const pe_int fun _ _ => .int i
theorem se_bl {b : Bool} {j : Nat} : SE X C (.Constant (.bool b) j pos) (eC (.bl b)) := se_const pe_bl fun _ _ => .bl b
theorem se_non {j : Nat} : SE X C (.Constant .none j pos) (eC .non) := se_const pe_non fun _ _ => .non
theorem se_str {x : Str} {j : Nat} : SE X C (.Constant (.str x) j pos) (eC (.str x)) := se_const pe_str fun _ _ => .str x
/-- a constant of the module -/
theorem se_glob {x : Str} {d : D} {v : V} {u : Value} (hg : Gl X x) (hm : X.mg x = some u) (r : RelV v u) (rd : ∀ G m, Rep X.K C.ct G m d v) (hd : (x == ("__debug__" : Str)) = false := by decide) : SE X C (.Name x pos) (eC d) := se_const (pe_glob hg hm r hd) rd
theorem se_never {e : Expr} : SE X C e eStk := ⟨fun pins s σ H Q I ⟨δ, v, re, eH, h⟩ => h.elim⟩
end

/-! ### what stands at the top of a datum, read in the heap as it is -/
inductive RepT (K : PySem.W.Frag) (ct : String → Addr) (v : Vw) : D → V → Prop
  | non : RepT K ct v .non .non
  | bl (b : Bool) : RepT K ct v (.bl b) (.bl b)
  | int (i : Int) : RepT K ct v (.int i) (.int i)
  | str (x : Str) : RepT K ct v (.str x) (.str x)
  | fn (s : String) : RepT K ct v (.fn s) (.ref (ct s))
  | ob {i : Nat} {a : Addr} : v.m i = some a → RepT K ct v (.ob i) (.ref a)
  | tup {a : Addr} {vs : List V} {ds : List D} : SqT K v.G a vs → RepL K ct v.G v.m ds vs → RepT K ct v (.tup ds) (.ref a)
  | lst {a : Addr} {vs : List V} {ds : List D} : SqL K v.H a vs → RepL K ct v.G v.m ds vs → RepT K ct v (.lst ds) (.ref a)
  | dct {a : Addr} {vs : List V} {ks : List Key} {ds : List D} : v.H a = some (.dK (ks.zip vs)) → ks.length = ds.length → RepL K ct v.G v.m ds vs → RepT K ct v (.dct ks ds) (.ref a)
  | ev {a : Addr} {c : String} {ks : List Str} {ds : List D} : Rep K ct v.G v.m (.ev c ks ds) (.ref a) → RepT K ct v (.ev c ks ds) (.ref a)
  | clo {a : Addr} {k : Clo} {ds : List D} : Rep K ct v.G v.m (.clo k ds) (.ref a) → RepT K ct v (.clo k ds) (.ref a)
def rsv (s : Sto) : D → D
  | .ob i => match s[i]? with
    | some (.lst xs) => .lst xs
    | some (.dK kvs) => .dct (kvs.map (·.1)) (kvs.map (·.2))
    | _ => .ob i
  | d => d
theorem zip_unzip {κ β : Type} : ∀ l : List (κ × β), (l.map (·.1)).zip (l.map (·.2)) = l
  | [] => rfl
  | x :: r => by simp [zip_unzip r]
theorem Rep.top {K : PySem.W.Frag} {ct : String → Addr} {v : Vw} {d : D} {x : V} (sr : SR K ct v) (r : Rep K ct v.G v.m d x) : RepT K ct v (rsv v.st d) x := by
  cases r with
  | non => exact .non
  | bl b => exact .bl b
  | int b => exact .int b
  | str b => exact .str b
  | fn s => exact .fn s
  | tup h r => exact .tup h r
  | lst h r => exact .lst (sr.sub.seq h) r
  | dct h l r => exact .dct (sr.sub _ _ h) l r
  | ev0 h => exact .ev (.ev0 h)
  | ev n h h2 l r => exact .ev (.ev n h h2 l r)
  | clo h1 h2 h3 h4 r => exact .clo (.clo h1 h2 h3 h4 r)
  | @ob _ _ i a e =>
    unfold rsv
    dsimp only
    split
    · rename_i xs h
      obtain ⟨a', e', _, vs, h2, r⟩ := sr.obj i _ h rfl
      rw [e] at e'
      cases e'
      exact .lst (SqL.of h2) r
    · rename_i kvs h
      obtain ⟨a', e', _, vs, h2, r⟩ := sr.obj i _ h rfl
      rw [e] at e'
      cases e'
      have k := r.keys
      refine .dct (vs := vs.map (·.2)) ?_ (by simp) r.vals
      rw [k, zip_unzip]
      exact h2
    · exact .ob e

/-! ### operators, by values -/
abbrev B2 := D → D → Option D
def rD (K : PySem.W.Frag) (ct : String → Addr) (g : B2) : R2 := fun x y H Q => ∃ v dx dy d, v.H = H ∧ SR K ct v ∧ g dx dy = some d ∧ RepT K ct v dx x ∧ RepT K ct v dy y ∧ ∀ z v', Le v v' → SR K ct v' → v'.st = v.st → Rep K ct v'.G v'.m d z → Q z v'.H
def eBin (g : B2) (a b : E) : E := fun δ s => (a δ s).bind fun x s1 => (b δ s1).bind fun y s2 => R.ofO (g (rsv s2 x) (rsv s2 y)) s2
section
variable {X : Cx} {C : Cc} {pos : Pos} {a b c : Expr} {fa fb fc : E} {g : B2}
theorem lift_bin {K : PySem.W.Frag} {σ : L2.St} {H : Hp} {Q : VK} (h : liftE K C (eBin g fa fb) σ H Q) : tOp (rD K C.ct g) (liftE K C fa) (liftE K C fb) σ H Q := by
  obtain ⟨δ, v, re, rfl, h⟩ := h
  refine ⟨δ, v, re, rfl, on_mono (on_bind h) fun d x v1 l1 s1 r1 h1 => ?_⟩
  refine ⟨δ, v1, re.step l1 s1, rfl, on_mono (on_bind h1) fun d2 x2 v2 l2 s2 r2 h2 => ?_⟩
  obtain ⟨z, e, h2⟩ := on_ofO h2
  exact ⟨v2, _, _, z, rfl, s2, e, (l2.rep r1).top s2, r2.top s2, h2⟩
theorem se_bin {op : Operator} (ho : OpR X (binaryOp op) (rD X.K C.ct g)) (ha : SE X C a fa) (hb : SE X C b fb) : SE X C (.BinOp a op b pos) (eBin g fa fb) :=
  pe_weak (pe_op ho ha hb) fun σ H Q h => lift_bin h
theorem se_cmp {op : CmpOp} (ho : OpR X (compareOp op) (rD X.K C.ct g)) (ha : SE X C a fa) (hb : SE X C b fb) (hm : behindInMarks op b = false := by first | exact nomark _ | rfl) : SE X C (.Compare a [op] [b] pos) (eBin g fa fb) :=
  pe_weak (pe_cmpR ho ha hb hm) fun σ H Q h => lift_bin h
/-- a value as a test: a truth -/
def tV (f : E) : T := fun δ s => (f δ s).bind fun d s1 => match d with
  | .bl b => .ok b s1
  | _ => .stk
theorem lift_test {K : PySem.W.Frag} {f : E} {σ : L2.St} {H : Hp} {Q : Bool → Hp → Prop} (h : liftT K C (tV f) σ H Q) : liftE K C f σ H fun v H' => ∃ k, v = .bl k ∧ Q k H' := by
  obtain ⟨δ, v, re, eH, h⟩ := h
  refine ⟨δ, v, re, eH, on_mono (on_bind h) fun d x v1 l1 s1 r1 h1 => ?_⟩
  cases r1 <;> first
    | exact h1.elim
    | exact ⟨_, rfl, on_self s1 h1 rfl⟩
theorem st_cmp {op : CmpOp} (ho : OpR X (compareOp op) (rD X.K C.ct g)) (ha : SE X C a fa) (hb : SE X C b fb) (hm : behindInMarks op b = false := by first | exact nomark _ | rfl) : ST X C (.Compare a [op] [b] pos) (tV (eBin g fa fb)) := by
  refine ⟨fun pins s σ H Q I h => ?_⟩
  refine (pt_cmpR ho ha hb hm).run pins s σ H Q I ?_
  exact lift_bin (Q := fun v H' => ∃ k, v = .bl k ∧ Q k H') (lift_test h)
theorem st_val {e : Expr} {f : E} (h : SE X C e f) (he : ∀ whole, isTrue e X.env whole = (do let v ← whole; standAt e.pos; holding [v] (truthy v)) := by intro _; rfl) : ST X C e (tV f) :=
  pt_weak (pt_val h he) fun σ H Q z => lift_test z
/-- two comparisons in a chain -/
def eChain (g g' : B2) (a b c : E) : E := fun δ s => (a δ s).bind fun x s1 => (b δ s1).bind fun y s2 => (R.ofO (g (rsv s2 x) (rsv s2 y)) s2).bind fun z s3 => match z with
  | .bl true => (c δ s3).bind fun w s4 => R.ofO (g' (rsv s4 y) (rsv s4 w)) s4
  | .bl false => .ok (.bl false) s3
  | _ => .stk
theorem lift_chain {K : PySem.W.Frag} {g' : B2} {σ : L2.St} {H : Hp} {Q : VK} (h : liftE K C (eChain g g' fa fb fc) σ H Q) : tChain (rD K C.ct g) (rD K C.ct g') (liftE K C fa) (liftE K C fb) (liftE K C fc) σ H Q := by
  obtain ⟨δ, v, re, rfl, h⟩ := h
  refine ⟨δ, v, re, rfl, on_mono (on_bind h) fun d x v1 l1 s1 r1 h1 => ?_⟩
  refine ⟨δ, v1, re.step l1 s1, rfl, on_mono (on_bind h1) fun d2 x2 v2 l2 s2 r2 h2 => ?_⟩
  have h3 := on_bind (rel := rE K C.ct) h2
  obtain ⟨z, e, h3⟩ := on_ofO h3
  refine ⟨v2, _, _, z, rfl, s2, e, (l2.rep r1).top s2, r2.top s2, fun x3 v3 l3 s3 e3 r3 => ?_⟩
  have h4 := h3 x3 v3 l3 s3 e3 r3
  cases r3 <;> first
    | exact h4.elim
    | skip
  rename_i k
  refine ⟨k, rfl, ?_⟩
  cases k with
  | true =>
    rw [if_pos rfl]
    refine ⟨δ, v3, ((re.step l1 s1).step l2 s2).step l3 s3, rfl, on_mono (on_bind h4) fun d4 x4 v4 l4 s4 r4 h5 => ?_⟩
    obtain ⟨z, e, h5⟩ := on_ofO h5
    exact ⟨v4, _, _, z, rfl, s4, e, ((l3.trans l4).rep r2).top s4, r4.top s4, h5⟩
  | false =>
    rw [if_neg Bool.false_ne_true]
    exact on_self s3 h4 (.bl false)
theorem se_chain {op op' : CmpOp} {g' : B2} (ho : OpR X (compareOp op) (rD X.K C.ct g)) (ho' : OpR X (compareOp op') (rD X.K C.ct g')) (ha : SE X C a fa) (hb : SE X C b fb) (hc : SE X C c fc)
    (hm : lastMarks [op, op'] [b, c] = false := by with_unfolding_all rfl) : SE X C (.Compare a [op, op'] [b, c] pos) (eChain g g' fa fb fc) :=
  pe_weak (pe_chain ho ho' ha hb hc hm) fun σ H Q h => lift_chain h
theorem st_chain {op op' : CmpOp} {g' : B2} (ho : OpR X (compareOp op) (rD X.K C.ct g)) (ho' : OpR X (compareOp op') (rD X.K C.ct g')) (ha : SE X C a fa) (hb : SE X C b fb) (hc : SE X C c fc)
    (hm : lastMarks [op, op'] [b, c] = false := by with_unfolding_all rfl) : ST X C (.Compare a [op, op'] [b, c] pos) (tV (eChain g g' fa fb fc)) := by
  refine ⟨fun pins s σ H Q I h => ?_⟩
  refine (pt_chain ho ho' ha hb hc hm).run pins s σ H Q I ?_
  exact lift_chain (Q := fun v H' => ∃ k, v = .bl k ∧ Q k H') (lift_test h)

/-! ### not, and, or -/
def tNt (f : T) : T := fun δ s => (f δ s).bind fun b s1 => .ok (!b) s1
def tAn (f g : T) : T := fun δ s => (f δ s).bind fun b s1 => if b = true then g δ s1 else .ok false s1
def tOrr (f g : T) : T := fun δ s => (f δ s).bind fun b s1 => if b = true then .ok true s1 else g δ s1
theorem st_not {ft : T} (h : ST X C a ft) : ST X C (.UnaryOp .Not a pos) (tNt ft) := pt_weak (pt_not h) fun σ H Q ⟨δ, v, re, eH, h⟩ =>
  ⟨δ, v, re, eH, on_mono (on_bind h) fun b k v1 l1 s1 e h1 => by cases e; exact on_self s1 h1 rfl⟩
theorem lift_and {K : PySem.W.Frag} {ft gt : T} {σ : L2.St} {H : Hp} {Q : Bool → Hp → Prop} (h : liftT K C (tAn ft gt) σ H Q) : tAnd (liftT K C ft) (liftT K C gt) σ H Q := by
  obtain ⟨δ, v, re, eH, h⟩ := h
  refine ⟨δ, v, re, eH, on_mono (on_bind h) fun b k v1 l1 s1 e h1 => ?_⟩
  cases e
  cases b with
  | true => exact ⟨δ, v1, re.step l1 s1, rfl, h1⟩
  | false => exact on_self s1 h1 rfl
theorem lift_or {K : PySem.W.Frag} {ft gt : T} {σ : L2.St} {H : Hp} {Q : Bool → Hp → Prop} (h : liftT K C (tOrr ft gt) σ H Q) : tOr (liftT K C ft) (liftT K C gt) σ H Q := by
  obtain ⟨δ, v, re, eH, h⟩ := h
  refine ⟨δ, v, re, eH, on_mono (on_bind h) fun b k v1 l1 s1 e h1 => ?_⟩
  cases e
  cases b with
  | true => exact on_self s1 h1 rfl
  | false => exact ⟨δ, v1, re.step l1 s1, rfl, h1⟩
end
/-- tests whose whole is theirs (and, or) -/
abbrev SW (X : Cx) (C : Cc) (e : Expr) (f : T) : Prop := PW X e (liftT X.K C f)
section
variable {X : Cx} {C : Cc} {pos : Pos} {a : Expr} {rest : List Expr} {ft gt : T}
theorem sw_and1 (ha : ST X C a ft) : SW X C (.BoolOp .And [a] pos) ft := pw_and1 ha
theorem sw_and {b : Expr} (ha : ST X C a ft) (hr : SW X C (.BoolOp .And (b :: rest) pos) gt) : SW X C (.BoolOp .And (a :: b :: rest) pos) (tAn ft gt) := pw_weak (pw_and ha hr) fun σ H Q h => lift_and h
theorem sw_or1 (ha : ST X C a ft) : SW X C (.BoolOp .Or [a] pos) ft := pw_or1 ha
theorem sw_or {b : Expr} (ha : ST X C a ft) (hr : SW X C (.BoolOp .Or (b :: rest) pos) gt) : SW X C (.BoolOp .Or (a :: b :: rest) pos) (tOrr ft gt) := pw_weak (pw_or ha hr) fun σ H Q h => lift_or h
end
/-! ### and, or, not as values (truths) -/
def eAn (a b : E) : E := fun δ s => (a δ s).bind fun x s1 => match x with
  | .bl true => b δ s1
  | .bl false => .ok (.bl false) s1
  | _ => .stk
def eOr (a b : E) : E := fun δ s => (a δ s).bind fun x s1 => match x with
  | .bl true => .ok (.bl true) s1
  | .bl false => b δ s1
  | _ => .stk
def eNt (a : E) : E := fun δ s => (a δ s).bind fun x s1 => match x with
  | .bl k => .ok (.bl !k) s1
  | _ => .stk
section
variable {X : Cx} {C : Cc} {pos : Pos} {a b c : Expr} {fa fb fc : E} {ft : T} {rest : List Expr}
theorem lift_anV {K : PySem.W.Frag} {σ : L2.St} {H : Hp} {Q : VK} (h : liftE K C (eAn fa fb) σ H Q) : tAndV (liftE K C fa) (liftE K C fb) σ H Q := by
  obtain ⟨δ, v, re, eH, h⟩ := h
  refine ⟨δ, v, re, eH, on_mono (on_bind h) fun d x v1 l1 s1 r1 h1 => ?_⟩
  cases r1 <;> first
    | exact h1.elim
    | skip
  rename_i k
  refine ⟨k, rfl, ?_⟩
  cases k with
  | true => exact ⟨δ, v1, re.step l1 s1, rfl, h1⟩
  | false => exact on_self s1 h1 (.bl false)
theorem lift_orV {K : PySem.W.Frag} {σ : L2.St} {H : Hp} {Q : VK} (h : liftE K C (eOr fa fb) σ H Q) : tOrV (liftE K C fa) (liftE K C fb) σ H Q := by
  obtain ⟨δ, v, re, eH, h⟩ := h
  refine ⟨δ, v, re, eH, on_mono (on_bind h) fun d x v1 l1 s1 r1 h1 => ?_⟩
  cases r1 <;> first
    | exact h1.elim
    | skip
  rename_i k
  refine ⟨k, rfl, ?_⟩
  cases k with
  | true => exact on_self s1 h1 (.bl true)
  | false => exact ⟨δ, v1, re.step l1 s1, rfl, h1⟩
theorem lift_nt {K : PySem.W.Frag} {σ : L2.St} {H : Hp} {Q : VK} (h : liftE K C (eNt fa) σ H Q) : tNotV (liftE K C fa) σ H Q := by
  obtain ⟨δ, v, re, eH, h⟩ := h
  refine ⟨δ, v, re, eH, on_mono (on_bind h) fun d x v1 l1 s1 r1 h1 => ?_⟩
  cases r1 <;> first
    | exact h1.elim
    | exact ⟨_, rfl, on_self s1 h1 (.bl _)⟩
theorem se_nt (ha : SE X C a fa) : SE X C (.UnaryOp .Not a pos) (eNt fa) := pe_weak (pe_not ha) fun σ H Q h => lift_nt h
theorem se_one {op : BoolOp} (ha : SE X C a fa) : SE X C (.BoolOp op [a] pos) fa := pe_one ha
theorem se_and (ha : SE X C a fa) (hb : SE X C (.BoolOp .And (b :: rest) pos) fb) : SE X C (.BoolOp .And (a :: b :: rest) pos) (eAn fa fb) := pe_weak (pe_and ha hb) fun σ H Q h => lift_anV h
theorem se_or (ha : SE X C a fa) (hb : SE X C (.BoolOp .Or (b :: rest) pos) fb) : SE X C (.BoolOp .Or (a :: b :: rest) pos) (eOr fa fb) := pe_weak (pe_or ha hb) fun σ H Q h => lift_orV h
/-- a if t else b -/
def eIf (t : T) (a b : E) : E := fun δ s => (t δ s).bind fun k s1 => if k = true then a δ s1 else b δ s1
theorem se_if (ht : ST X C c ft) (ha : SE X C a fa) (hb : SE X C b fb) : SE X C (.IfExp c a b pos) (eIf ft fa fb) := pe_weak (pe_ifExp ht ha hb) fun σ H Q ⟨δ, v, re, eH, h⟩ => by
  refine ⟨δ, v, re, eH, on_mono (on_bind h) fun b k v1 l1 s1 e h1 => ?_⟩
  cases e
  cases b with
  | true => exact ⟨δ, v1, re.step l1 s1, rfl, h1⟩
  | false => exact ⟨δ, v1, re.step l1 s1, rfl, h1⟩
end

/-! ### arguments, displays -/
def aNil : As := fun _ s => .ok [] s
def aCons (f : E) (r : As) : As := fun δ s => (f δ s).bind fun x s1 => (r δ s1).bind fun xs s2 => .ok (x :: xs) s2
def eTup (r : As) : E := fun δ s => (r δ s).bind fun xs s1 => if xs.length ≤ sizeLine then .ok (.tup xs) s1 else .stk
/-- a written list, frozen at once -/
def eLst (r : As) : E := fun δ s => (r δ s).bind fun xs s1 => if xs.length ≤ sizeLine then .ok (.lst xs) s1 else .stk
/-- a written list, a thing of the store -/
def eNew (r : As) : E := fun δ s => (r δ s).bind fun xs s1 => if xs.length ≤ sizeLine then .ok (.ob s1.length) (s1 ++ [.lst xs]) else .stk
section
variable {X : Cx} {C : Cc} {pos : Pos} {e : Expr} {es : List Expr} {f : E} {r : As}
theorem sa_nil : SA X C [] aNil := pa_weak pa_nil fun σ H Q ⟨δ, v, re, eH, h⟩ => by subst eH; exact on_self (b := []) re.sr h .nil
theorem sa_cons (ha : SE X C e f) (hr : SA X C es r) (hs : starEach (e :: es) X.env = (false, eval e X.env) :: starEach es X.env := by rfl) : SA X C (e :: es) (aCons f r) :=
  pa_weak (pa_cons ha hr hs) fun σ H Q ⟨δ, v, re, eH, h⟩ => ⟨δ, v, re, eH, on_mono (on_bind h) fun d x v1 l1 s1 r1 h1 =>
    ⟨δ, v1, re.step l1 s1, rfl, on_mono (on_bind h1) fun ds xs v2 l2 s2 r2 h2 => on_self (b := x :: xs) s2 h2 (.cons (l2.rep r1) r2)⟩⟩
theorem se_tup {k : Nat} (h : SA X C es r) : SE X C (.Tuple es k pos) (eTup r) := pe_weak (pe_tup h) fun σ H Q ⟨δ, v, re, eH, h⟩ =>
  ⟨δ, v, re, eH, on_mono (on_bind h) fun ds vs v1 l1 s1 r1 h1 => by
    have hl := r1.length
    split at h1
    · rename_i z
      refine ⟨by omega, fun p hp => ?_⟩
      obtain ⟨l2, s2⟩ := new_ok (o := .tup vs) s1 hp
      exact h1 (.ref p) _ l2 s2 rfl (.tup (SqT.of upd_same) (l2.repl r1))
    · exact h1.elim⟩
theorem se_lst (h : SA X C es r) : SE X C (.List es pos) (eLst r) := pe_weak (pe_lst h) fun σ H Q ⟨δ, v, re, eH, h⟩ =>
  ⟨δ, v, re, eH, on_mono (on_bind h) fun ds vs v1 l1 s1 r1 h1 => by
    have hl := r1.length
    split at h1
    · rename_i z
      refine ⟨by omega, fun p hp => ?_⟩
      obtain ⟨l2, s2⟩ := new_ok (o := .lst vs) s1 hp
      exact h1 (.ref p) _ l2 s2 rfl (.lst (SqL.of upd_same) (l2.repl r1))
    · exact h1.elim⟩
/-- a new list of the store at p -/
theorem newL_ok {K : PySem.W.Frag} {ct : String → Addr} {v : Vw} {p : Addr} {ds : List D} {vs : List V} (s : SR K ct v) (hp : v.H p = none) (r : RepL K ct v.G v.m ds vs) :
    Le v (v.alloc p (upd v.H p (.lst vs)) (.lst ds)) ∧ SR K ct (v.alloc p (upd v.H p (.lst vs)) (.lst ds)) :=
  alloc_ok s hp (same_new hp _) (fun C b fs q => by rw [upd_same] at q; cases q) ⟨vs, upd_same, r.mono (Same.refl _) (mset_grow (s.dom _ (Nat.le_refl _)))⟩
theorem se_new (h : SA X C es r) : SE X C (.List es pos) (eNew r) := pe_weak (pe_lst h) fun σ H Q ⟨δ, v, re, eH, h⟩ =>
  ⟨δ, v, re, eH, on_mono (on_bind h) fun ds vs v1 l1 s1 r1 h1 => by
    have hl := r1.length
    split at h1
    · rename_i z
      refine ⟨by omega, fun p hp => ?_⟩
      obtain ⟨l2, s2⟩ := newL_ok s1 hp r1
      exact h1 (.ref p) _ l2 s2 rfl (.ob mset_same)
    · exact h1.elim⟩
end
end Gs

/-! G3: operators, built-in functions, items and slices over data. -/
namespace Gs
open PySem L2

/-! ### data that == takes -/
mutual
def toPy : D → Option PyData
  | .non => some .none
  | .bl b => some (.bool b)
  | .int i => some (.int i)
  | .str x => some (.str x)
  | .fn _ => none
  | .dct _ _ => none
  | .ob _ => none
  | .ev _ _ _ => none
  | .clo _ _ => none
  | .tup xs => (toPyL xs).map .tuple
  | .lst xs => (toPyL xs).map .list
def toPyL : List D → Option (List PyData)
  | [] => some []
  | d :: ds => match toPy d, toPyL ds with
    | some p, some ps => some (p :: ps)
    | _, _ => none
end
mutual
theorem Rep.dp {K : PySem.W.Frag} {ct : String → Addr} {G H : Hp} {m : Nat → Option Addr} (sub : Same G H) : ∀ {d : D} {v : V} {p : PyData}, Rep K ct G m d v → toPy d = some p → Dp K H v p
  | _, _, _, .non, e => by simp only [toPy, Option.some.injEq] at e; subst e; exact .non
  | _, _, _, .bl b, e => by simp only [toPy, Option.some.injEq] at e; subst e; exact .bl b
  | _, _, _, .int i, e => by simp only [toPy, Option.some.injEq] at e; subst e; exact .int i
  | _, _, _, .str x, e => by simp only [toPy, Option.some.injEq] at e; subst e; exact .str x
  | _, _, _, .fn a, e => by simp only [toPy] at e; exact nomatch e
  | _, _, _, .ob _, e => by simp only [toPy] at e; exact nomatch e
  | _, _, _, .ev0 _, e => by simp only [toPy] at e; exact nomatch e
  | _, _, _, .ev _ _ _ _ _, e => by simp only [toPy] at e; exact nomatch e
  | _, _, _, .dct h l r, e => by simp only [toPy] at e; exact nomatch e
  | _, _, _, .clo _ _ _ _ _, e => by simp only [toPy] at e; exact nomatch e
  | .tup ds, _, _, .tup h r, e => by
    simp only [toPy] at e
    cases q : toPyL ds with
    | none => rw [q] at e; exact nomatch e
    | some ps =>
      rw [q] at e
      simp only [Option.map_some, Option.some.injEq] at e
      subst e
      exact .tup (sqt_mono sub h) (RepL.dp sub r q)
  | .lst ds, _, _, .lst h r, e => by
    simp only [toPy] at e
    cases q : toPyL ds with
    | none => rw [q] at e; exact nomatch e
    | some ps =>
      rw [q] at e
      simp only [Option.map_some, Option.some.injEq] at e
      subst e
      exact .lst (sub.seq h) (RepL.dp sub r q)
theorem RepL.dp {K : PySem.W.Frag} {ct : String → Addr} {G H : Hp} {m : Nat → Option Addr} (sub : Same G H) : ∀ {ds : List D} {vs : List V} {ps : List PyData}, RepL K ct G m ds vs → toPyL ds = some ps → DpAll K H vs ps
  | _, _, _, .nil, e => by simp only [toPyL, Option.some.injEq] at e; subst e; exact .nil
  | d :: ds, _, _, .cons h r, e => by
    simp only [toPyL] at e
    cases q : toPy d with
    | none => rw [q] at e; simp at e
    | some p =>
      cases q2 : toPyL ds with
      | none => rw [q, q2] at e; simp at e
      | some ps =>
        rw [q, q2] at e
        simp only [Option.some.injEq] at e
        subst e
        exact .cons (Rep.dp sub h q) (RepL.dp sub r q2)
end
theorem RepT.dp {K : PySem.W.Frag} {ct : String → Addr} {v : Vw} (sr : SR K ct v) {d : D} {x : V} {p : PyData} (r : RepT K ct v d x) (e : toPy d = some p) : Dp K v.H x p := by
  cases r with
  | non => exact (Rep.non (K := K) (ct := ct) (m := v.m)).dp sr.sub e
  | bl b => exact (Rep.bl (K := K) (ct := ct) (m := v.m) b).dp sr.sub e
  | int b => exact (Rep.int (K := K) (ct := ct) (m := v.m) b).dp sr.sub e
  | str b => exact (Rep.str (K := K) (ct := ct) (m := v.m) b).dp sr.sub e
  | fn s => simp only [toPy] at e; exact nomatch e
  | ob h => simp only [toPy] at e; exact nomatch e
  | ev h => simp only [toPy] at e; exact nomatch e
  | clo h => simp only [toPy] at e; exact nomatch e
  | dct h l r => simp only [toPy] at e; exact nomatch e
  | tup h r => exact (Rep.tup h r).dp sr.sub e
  | @lst a vs ds h r =>
    simp only [toPy] at e
    cases q : toPyL ds with
    | none => rw [q] at e; exact nomatch e
    | some ps =>
      rw [q] at e
      simp only [Option.map_some, Option.some.injEq] at e
      subst e
      exact .lst h (RepL.dp sr.sub r q)

/-! ### operators -/
def gAdd : B2
  | .int i, .int j => some (.int (i + j))
  | .str x, .str y => if x.length + y.length ≤ sizeLine then some (.str (x ++ y)) else none
  | .lst xs, .lst ys => if xs.length + ys.length ≤ sizeLine then some (.lst (xs ++ ys)) else none
  | .tup xs, .tup ys => if xs.length + ys.length ≤ sizeLine then some (.tup (xs ++ ys)) else none
  | _, _ => none
def gSub : B2
  | .int i, .int j => some (.int (i - j))
  | _, _ => none
instance {i j : Int} : Decidable (IntMulOk i j) := by unfold IntMulOk; infer_instance
/-- a text so often -/
def repS (x : Str) (j : Int) : Str := ⟨(List.replicate j.toNat x.cps.toList).flatten.toArray⟩
def gMul : B2
  | .int i, .int j => if IntMulOk i j then some (.int (i * j)) else none
  | .str x, .int j => if 0 ≤ j ∧ j ≤ 100000 ∧ x.length ≤ 1000 ∧ x.length * j.toNat ≤ 100000 then some (.str (repS x j)) else none
  | _, _ => none
def gDiv : B2
  | .int i, .int j => if 0 < j ∧ j.natAbs.log2 < 9000 then some (.int (i / j)) else none
  | _, _ => none
def gMod : B2
  | .int i, .int j => if 0 < j then some (.int (i % j)) else none
  | _, _ => none
def gPow : B2
  | .int i, .int j => if 0 ≤ j ∧ (Builtin.Int.intBits i : Int) * j ≤ 2 ^ 27 then some (.int (i ^ j.toNat)) else none
  | _, _ => none
def gShl : B2
  | .int i, .int j => if 0 ≤ j ∧ (Builtin.Int.intBits i : Int) + j ≤ 2 ^ 27 then some (.int (i * 2 ^ j.toNat)) else none
  | _, _ => none
def gShr : B2
  | .int i, .int j => if 0 ≤ j then some (.int (i / 2 ^ j.toNat)) else none
  | _, _ => none
def gLt : B2
  | .int i, .int j => some (.bl (decide (i < j)))
  | .str x, .str y => some (.bl (decide (x.cps.toList < y.cps.toList)))
  | _, _ => none
def gLe : B2
  | .int i, .int j => some (.bl (decide (i ≤ j)))
  | _, _ => none
def gGt : B2
  | .int i, .int j => some (.bl (decide (j < i)))
  | _, _ => none
def gGe : B2
  | .int i, .int j => some (.bl (decide (j ≤ i)))
  | _, _ => none
def eqPy (x y : D) : Option Bool := match toPy x, toPy y with
  | some p, some q => if SeqAt.shaped p && SeqAt.shaped q then some (PyData.eqv p q) else none
  | _, _ => none
def eqO : D → D → Option Bool
  | .int i, .int j => some (decide (i = j))
  | .str x, .str y => some (decide (x = y))
  | .bl x, .bl y => some (decide (x = y))
  | .non, .non => some true
  | .non, .str _ => some false
  | .str _, .non => some false
  | .int _, .str _ => some false
  | .str _, .int _ => some false
  | .non, .int _ => some false
  | .int _, .non => some false
  | x, y => eqPy x y
def gEq : B2 := fun x y => (eqO x y).map .bl
def gNe : B2 := fun x y => (eqO x y).map fun b => .bl !b
def gIsN : B2
  | x, .non => some (.bl (match x with | .non => true | _ => false))
  | _, _ => none
def gNotN : B2
  | x, .non => some (.bl (match x with | .non => false | _ => true))
  | _, _ => none

section
variable {X : Cx} {ct : String → Addr}
theorem op_none {f : Value → Value → Sem Value} {r : R2} : OpR X f r → OpR X f r := id
theorem o_add : OpR X (binaryOp .Add) (rD X.K ct gAdd) := by
  intro pins s σ H x y v u Q I rx ry h
  obtain ⟨v0, dx, dy, d, rfl, sr, e, r1, r2, h⟩ := h
  cases r1 with
  | int i =>
    cases r2 <;> simp only [gAdd, Option.some.injEq, reduceCtorEq] at e
    subst e
    exact op_add pins s σ _ _ _ v u Q I rx ry ⟨_, _, rfl, rfl, h _ v0 .refl sr rfl (.int _)⟩
  | str z =>
    cases r2 <;> simp only [gAdd, reduceCtorEq] at e
    split at e
    · rename_i hz
      simp only [Option.some.injEq] at e
      subst e
      exact op_add_str pins s σ _ _ _ v u Q I rx ry ⟨_, _, rfl, rfl, hz, h _ v0 .refl sr rfl (.str _)⟩
    · exact nomatch e
  | non => cases r2 <;> simp only [gAdd, reduceCtorEq] at e
  | bl b => cases r2 <;> simp only [gAdd, reduceCtorEq] at e
  | fn a => cases r2 <;> simp only [gAdd, reduceCtorEq] at e
  | ob a => cases r2 <;> simp only [gAdd, reduceCtorEq] at e
  | ev a => cases r2 <;> simp only [gAdd, reduceCtorEq] at e
  | clo a => cases r2 <;> simp only [gAdd, reduceCtorEq] at e
  | dct p l q => cases r2 <;> simp only [gAdd, reduceCtorEq] at e
  | tup p q =>
    cases r2 <;> simp only [gAdd, reduceCtorEq] at e
    rename_i p2 q2
    split at e
    · rename_i hz
      simp only [Option.some.injEq] at e
      subst e
      have l1 := q.length
      have l2 := q2.length
      refine op_catA pins s σ _ _ _ v u Q I rx ry ⟨_, _, _, _, rfl, rfl, sqt_mono sr.sub p, sqt_mono sr.sub p2, by omega, fun z => ?_, fun z1 z2 => ?_, fun z1 z2 c hc => ?_⟩
      · subst z
        cases q
        exact h _ v0 .refl sr rfl (.tup p2 q2)
      · subst z2
        cases q2
        rw [List.append_nil] at h
        exact h _ v0 .refl sr rfl (.tup p q)
      · obtain ⟨l, s2⟩ := new_ok (o := .tup _) sr hc
        exact h _ _ l s2 rfl (.tup (SqT.of upd_same) (RepL.append (l.repl q) (l.repl q2)))
    · exact nomatch e
  | lst p q =>
    cases r2 <;> simp only [gAdd, reduceCtorEq] at e
    rename_i a1 vs1 ds1 a2 vs2 ds2 p2 q2
    split at e
    · rename_i hz
      simp only [Option.some.injEq] at e
      subst e
      cases rx
      cases ry
      have l1 := q.length
      have l2 := q2.length
      obtain ⟨is1, t1, ⟨⟨c1, d1, b1, s1⟩, n1, ho1, hc1, hd1, hs1⟩, z1⟩ := I.list (p)
      obtain ⟨is2, t2, ⟨⟨c2, d2, b2, s2⟩, n2, ho2, hc2, hd2, hs2⟩, z2⟩ := I.list (p2)
      simp only at hc1 hd1 hs1 hc2 hd2 hs2
      subst hc1 hd1 hs1 hc2 hd2 hs2
      have m1 := t1.length
      have m2 := t2.length
      refine concat_meets ⟨_, ho1, rfl⟩ ⟨_, ho2, rfl⟩ noFill_list_add seq_list_add PySem.F.slot_list_add PySem.F.entry_list_add (PySem.F.args_list_add_2 _ _) (PyProof.Rows.list_addW _ _ is1.toArray is2.toArray n1 n2 _ _ s1 s2 (by simp only [List.size_toArray]; omega)) ⟨ho1, ho2, ?_⟩
      rw [show is1.toArray ++ is2.toArray = (is1 ++ is2).toArray by simp]
      have hf := I.fresh
      obtain ⟨l, s2⟩ := new_ok (o := .lst (vs1 ++ vs2)) sr hf
      exact ⟨.ref _, _, I.lnew (t' := s.toks) (t1.append t2) (by simp only [List.length_append]; omega), rfl, h _ _ l s2 rfl (.lst (SqL.of upd_same) (RepL.append (l.repl q) (l.repl q2)))⟩
    · exact nomatch e
theorem o_sub : OpR X (binaryOp .Sub) (rD X.K ct gSub) := by
  intro pins s σ H x y v u Q I rx ry h
  obtain ⟨v0, dx, dy, d, rfl, sr, e, r1, r2, h⟩ := h
  cases r1 <;> cases r2 <;> simp only [gSub, Option.some.injEq, reduceCtorEq] at e
  subst e
  exact op_sub pins s σ _ _ _ v u Q I rx ry ⟨_, _, rfl, rfl, h _ v0 .refl sr rfl (.int _)⟩
theorem rep_flat (x : Array Nat) : ∀ (n : Nat) (acc : Array Nat), (List.replicate n x).foldl (· ++ ·) acc = (acc.toList ++ (List.replicate n x.toList).flatten).toArray
  | 0, acc => by simp
  | n + 1, acc => by
    rw [List.replicate_succ, List.foldl_cons, rep_flat x n, List.replicate_succ, List.flatten_cons]
    simp
theorem rep_len (x : Str) (j : Int) : (repS x j).length = x.length * j.toNat := by
  unfold repS
  show (List.replicate j.toNat x.cps.toList).flatten.toArray.size = x.cps.size * j.toNat
  rw [List.size_toArray, List.length_flatten, List.map_replicate, Array.length_toList]
  generalize x.cps.size = a
  generalize j.toNat = n
  induction n with
  | zero => simp
  | succ n ih => rw [List.replicate_succ, List.sum_cons, ih, Nat.mul_succ, Nat.add_comm]
theorem rep_one (x : Str) : repS x 1 = x := by
  unfold repS
  simp
theorem rep_zero (x : Str) : repS x 0 = Str.empty := by
  unfold repS
  rfl
theorem rep_nil (x : Str) (j : Int) (h : x.length = 0) : repS x j = x := by
  have e : x.cps.toList = [] := List.length_eq_zero_iff.mp (by simpa [Str.length] using h)
  have e2 : x = ⟨[].toArray⟩ := by rw [← e]
  unfold repS
  rw [e]
  have : (List.replicate j.toNat ([] : List Nat)).flatten = [] := by simp
  rw [this, ← e2]
theorem o_mul : OpR X (binaryOp .Mult) (rD X.K ct gMul) := by
  intro pins s σ H x y v u Q I rx ry h
  obtain ⟨v0, dx, dy, d, rfl, sr, e, r1, r2, h⟩ := h
  cases r1 <;> cases r2 <;> simp only [gMul, reduceCtorEq] at e
  · split at e
    · rename_i hc
      simp only [Option.some.injEq] at e
      subst e
      obtain ⟨t, rfl⟩ := rx
      obtain ⟨t', rfl⟩ := ry
      exact PyProof.Rows.mul_int ⟨.int _, _, I.tok _, ⟨_, rfl⟩, h _ v0 .refl sr rfl (.int _)⟩ hc
    · exact nomatch e
  · rename_i z j
    split at e
    · rename_i hc
      simp only [Option.some.injEq] at e
      subst e
      obtain ⟨t, rfl⟩ := rx
      obtain ⟨t', rfl⟩ := ry
      obtain ⟨h0, h1, h2, h3⟩ := hc
      have hs : (100000 : Nat) ≤ sizeLine := by decide
      have c1 : ∀ t', EP X pins σ Q (Value.str (repS z j) t') { s with toks := s.toks + 1 } := fun t' => ⟨.str _, _, I.tok _, ⟨_, rfl⟩, h _ v0 .refl sr rfl (.str _)⟩
      refine PySem.P.mul_str (by rw [decide_eq_false (by omega), decide_eq_false (by omega)]; rfl) (fun a b => ?_) (fun a b => ?_) ?_
      · have : (1000 : Int) ≤ (2 ^ 63 - 1) / j := Int.le_ediv_of_mul_le (by omega) (by omega)
        omega
      · unfold Builtin.Str.tooLong
        exact decide_eq_false (by omega)
      · by_cases a : j < 1
        · rw [if_pos a]
          have : j = 0 := by omega
          subst this
          have c1 := c1 s.toks
          rw [rep_zero] at c1
          exact ⟨by decide, c1⟩
        · rw [if_neg a]
          by_cases b : (j == 1 || z.length == 0) = true
          · rw [if_pos b]
            have e : repS z j = z := by
              rw [Bool.or_eq_true] at b
              rcases b with b | b
              · have : j = 1 := by simpa using b
                subst this
                exact rep_one z
              · exact rep_nil z j (by simpa using b)
            have g : EP X pins σ Q (Value.str z t) s := ⟨.str z, _, I, ⟨_, rfl⟩, by
              have := h (.str (repS z j)) v0 .refl sr rfl (.str _)
              rwa [e] at this⟩
            exact g
          · rw [if_neg b]
            have e : (⟨(List.replicate j.toNat z.cps).foldl (· ++ ·) #[]⟩ : Str) = repS z j := by
              unfold repS
              rw [rep_flat]
              simp
            rw [e]
            exact ⟨by rw [rep_len]; omega, c1 s.toks⟩
    · exact nomatch e
theorem o_div : OpR X (binaryOp .FloorDiv) (rD X.K ct gDiv) := by
  intro pins s σ H x y v u Q I rx ry h
  obtain ⟨v0, dx, dy, d, rfl, sr, e, r1, r2, h⟩ := h
  cases r1 <;> cases r2 <;> simp only [gDiv, reduceCtorEq] at e
  split at e
  · rename_i hc
    simp only [Option.some.injEq] at e
    subst e
    exact op_fdivW pins s σ _ _ _ v u Q I rx ry ⟨_, _, rfl, rfl, hc, h _ v0 .refl sr rfl (.int _)⟩
  · exact nomatch e
theorem o_mod : OpR X (binaryOp .Mod) (rD X.K ct gMod) := by
  intro pins s σ H x y v u Q I rx ry h
  obtain ⟨v0, dx, dy, d, rfl, sr, e, r1, r2, h⟩ := h
  cases r1 <;> cases r2 <;> simp only [gMod, reduceCtorEq] at e
  split at e
  · rename_i hc
    simp only [Option.some.injEq] at e
    subst e
    exact op_mod pins s σ _ _ _ v u Q I rx ry ⟨_, _, rfl, rfl, hc, h _ v0 .refl sr rfl (.int _)⟩
  · exact nomatch e
theorem op_powW : OpR X (binaryOp .Pow) (rI (fun i j => 0 ≤ j ∧ (Builtin.Int.intBits i : Int) * j ≤ 2 ^ 27) fun i j => .int (i ^ j.toNat)) := opI fun _ _ _ _ _ _ _ hc q => PyProof.Rows.pow_int hc.1 hc.2 q
theorem o_pow : OpR X (binaryOp .Pow) (rD X.K ct gPow) := by
  intro pins s σ H x y v u Q I rx ry h
  obtain ⟨v0, dx, dy, d, rfl, sr, e, r1, r2, h⟩ := h
  cases r1 <;> cases r2 <;> simp only [gPow, reduceCtorEq] at e
  split at e
  · rename_i hc
    simp only [Option.some.injEq] at e
    subst e
    exact op_powW pins s σ _ _ _ v u Q I rx ry ⟨_, _, rfl, rfl, hc, h _ v0 .refl sr rfl (.int _)⟩
  · exact nomatch e
theorem o_shl : OpR X (binaryOp .LShift) (rD X.K ct gShl) := by
  intro pins s σ H x y v u Q I rx ry h
  obtain ⟨v0, dx, dy, d, rfl, sr, e, r1, r2, h⟩ := h
  cases r1 <;> cases r2 <;> simp only [gShl, reduceCtorEq] at e
  split at e
  · rename_i hc
    simp only [Option.some.injEq] at e
    subst e
    exact op_shlW pins s σ _ _ _ v u Q I rx ry ⟨_, _, rfl, rfl, hc, h _ v0 .refl sr rfl (.int _)⟩
  · exact nomatch e
theorem o_shr : OpR X (binaryOp .RShift) (rD X.K ct gShr) := by
  intro pins s σ H x y v u Q I rx ry h
  obtain ⟨v0, dx, dy, d, rfl, sr, e, r1, r2, h⟩ := h
  cases r1 <;> cases r2 <;> simp only [gShr, reduceCtorEq] at e
  split at e
  · rename_i hc
    simp only [Option.some.injEq] at e
    subst e
    exact op_shr pins s σ _ _ _ v u Q I rx ry ⟨_, _, rfl, rfl, hc, h _ v0 .refl sr rfl (.int _)⟩
  · exact nomatch e
theorem o_lt : OpR X (compareOp .Lt) (rD X.K ct gLt) := by
  intro pins s σ H x y v u Q I rx ry h
  obtain ⟨v0, dx, dy, d, rfl, sr, e, r1, r2, h⟩ := h
  cases r1 <;> cases r2 <;> simp only [gLt, Option.some.injEq, reduceCtorEq] at e
  · subst e
    exact op_lt pins s σ _ _ _ v u Q I rx ry ⟨_, _, rfl, rfl, h _ v0 .refl sr rfl (.bl _)⟩
  · subst e
    exact op_lt_str pins s σ _ _ _ v u Q I rx ry ⟨_, _, rfl, rfl, h _ v0 .refl sr rfl (.bl _)⟩
theorem o_le : OpR X (compareOp .LtE) (rD X.K ct gLe) := by
  intro pins s σ H x y v u Q I rx ry h
  obtain ⟨v0, dx, dy, d, rfl, sr, e, r1, r2, h⟩ := h
  cases r1 <;> cases r2 <;> simp only [gLe, Option.some.injEq, reduceCtorEq] at e
  subst e
  exact op_le pins s σ _ _ _ v u Q I rx ry ⟨_, _, rfl, rfl, h _ v0 .refl sr rfl (.bl _)⟩
theorem o_gt : OpR X (compareOp .Gt) (rD X.K ct gGt) := by
  intro pins s σ H x y v u Q I rx ry h
  obtain ⟨v0, dx, dy, d, rfl, sr, e, r1, r2, h⟩ := h
  cases r1 <;> cases r2 <;> simp only [gGt, Option.some.injEq, reduceCtorEq] at e
  subst e
  exact op_gt pins s σ _ _ _ v u Q I rx ry ⟨_, _, rfl, rfl, h _ v0 .refl sr rfl (.bl _)⟩
theorem o_ge : OpR X (compareOp .GtE) (rD X.K ct gGe) := by
  intro pins s σ H x y v u Q I rx ry h
  obtain ⟨v0, dx, dy, d, rfl, sr, e, r1, r2, h⟩ := h
  cases r1 <;> cases r2 <;> simp only [gGe, Option.some.injEq, reduceCtorEq] at e
  subst e
  exact op_ge pins s σ _ _ _ v u Q I rx ry ⟨_, _, rfl, rfl, h _ v0 .refl sr rfl (.bl _)⟩
/-- both sides of == and != -/
theorem eq_core {K : PySem.W.Frag} {ct : String → Addr} {v : Vw} (sr : SR K ct v) {dx dy : D} {x y : V} {b : Bool} (r1 : RepT K ct v dx x) (r2 : RepT K ct v dy y) (e : eqO dx dy = some b) :
    (scal x y = true ∧ decide (x = y) = b) ∨ ∃ p q, Dp K v.H x p ∧ Dp K v.H y q ∧ SeqAt.shaped p = true ∧ SeqAt.shaped q = true ∧ PyData.eqv p q = b := by
  have gen : eqPy dx dy = some b → ∃ p q, Dp K v.H x p ∧ Dp K v.H y q ∧ SeqAt.shaped p = true ∧ SeqAt.shaped q = true ∧ PyData.eqv p q = b := fun e => by
    unfold eqPy at e
    cases q1 : toPy dx with
    | none => rw [q1] at e; exact nomatch e
    | some p =>
      cases q2 : toPy dy with
      | none => rw [q1, q2] at e; exact nomatch e
      | some q =>
        rw [q1, q2] at e
        simp only at e
        split at e
        · rename_i hs
          rw [Bool.and_eq_true] at hs
          exact ⟨p, q, r1.dp sr q1, r2.dp sr q2, hs.1, hs.2, Option.some.inj e⟩
        · exact nomatch e
  cases r1 <;> cases r2 <;> first
    | (simp only [eqO] at e; exact .inr (gen e))
    | (refine .inl ⟨rfl, ?_⟩; simp only [eqO, Option.some.injEq] at e; rw [← e]; simp)
theorem o_eq (hu : X.A.units + 64 < cLine) : OpR X (compareOp .Eq) (rD X.K ct gEq) := by
  intro pins s σ H x y v u Q I rx ry h
  obtain ⟨v0, dx, dy, d, rfl, sr, e, r1, r2, h⟩ := h
  unfold gEq at e
  cases q : eqO dx dy with
  | none => rw [q] at e; exact nomatch e
  | some b =>
    rw [q] at e
    have e' : d = .bl b := (Option.some.inj e).symm
    subst e'
    rcases eq_core sr r1 r2 q with ⟨h1, h2⟩ | ⟨p, q, d1, d2, s1, s2, eb⟩
    · exact op_eq pins s σ _ x y v u Q I rx ry ⟨h1, by rw [h2]; exact h _ v0 .refl sr rfl (.bl b)⟩
    · exact op_eqD hu pins s σ _ x y v u Q I rx ry ⟨p, q, d1, d2, s1, s2, by rw [eb]; exact h _ v0 .refl sr rfl (.bl b)⟩
theorem o_ne (hu : X.A.units + 64 < cLine) : OpR X (compareOp .NotEq) (rD X.K ct gNe) := by
  intro pins s σ H x y v u Q I rx ry h
  obtain ⟨v0, dx, dy, d, rfl, sr, e, r1, r2, h⟩ := h
  unfold gNe at e
  cases q : eqO dx dy with
  | none => rw [q] at e; exact nomatch e
  | some b =>
    rw [q] at e
    have e' : d = .bl !b := (Option.some.inj e).symm
    subst e'
    rcases eq_core sr r1 r2 q with ⟨h1, h2⟩ | ⟨p, q, d1, d2, s1, s2, eb⟩
    · exact op_ne pins s σ _ x y v u Q I rx ry ⟨h1, by rw [h2]; exact h _ v0 .refl sr rfl (.bl _)⟩
    · exact op_neD hu pins s σ _ x y v u Q I rx ry ⟨p, q, d1, d2, s1, s2, by rw [eb]; exact h _ v0 .refl sr rfl (.bl _)⟩
theorem o_isN : OpR X (compareOp .Is) (rD X.K ct gIsN) := by
  intro pins s σ H x y v u Q I rx ry h
  obtain ⟨v0, dx, dy, d, rfl, sr, e, r1, r2, h⟩ := h
  cases r2 <;> simp only [gIsN, Option.some.injEq, reduceCtorEq] at e
  subst e
  cases r1 <;> exact op_isN pins s σ _ _ _ v u Q I rx ry ⟨rfl, h _ v0 .refl sr rfl (.bl _)⟩
theorem o_notN : OpR X (compareOp .IsNot) (rD X.K ct gNotN) := by
  intro pins s σ H x y v u Q I rx ry h
  obtain ⟨v0, dx, dy, d, rfl, sr, e, r1, r2, h⟩ := h
  cases r2 <;> simp only [gNotN, Option.some.injEq, reduceCtorEq] at e
  subst e
  cases r1 <;> exact op_notN pins s σ _ _ _ v u Q I rx ry ⟨rfl, h _ v0 .refl sr rfl (.bl _)⟩
end

/-! ### one operand -/
abbrev B1 := D → Option D
def rD1 (K : PySem.W.Frag) (ct : String → Addr) (g : B1) : V → Hp → VK → Prop := fun x H Q => ∃ v dx d, v.H = H ∧ SR K ct v ∧ g dx = some d ∧ RepT K ct v dx x ∧ ∀ z v', Le v v' → SR K ct v' → v'.st = v.st → Rep K ct v'.G v'.m d z → Q z v'.H
def eUn (g : B1) (a : E) : E := fun δ s => (a δ s).bind fun x s1 => R.ofO (g (rsv s1 x)) s1
def gNeg : B1
  | .int i => some (.int (-i))
  | _ => none
section
variable {X : Cx} {C : Cc} {pos : Pos} {a : Expr} {fa : E} {g : B1}
theorem lift_un {K : PySem.W.Frag} {σ : L2.St} {H : Hp} {Q : VK} (h : liftE K C (eUn g fa) σ H Q) : tUn (rD1 K C.ct g) (liftE K C fa) σ H Q := by
  obtain ⟨δ, v, re, rfl, h⟩ := h
  refine ⟨δ, v, re, rfl, on_mono (on_bind h) fun d x v1 l1 s1 r1 h1 => ?_⟩
  obtain ⟨z, e, h1⟩ := on_ofO h1
  exact ⟨v1, _, z, rfl, s1, e, r1.top s1, h1⟩
theorem se_un {op : UnaryOp} (ho : UnR X (unaryOp op) (rD1 X.K C.ct g)) (ha : SE X C a fa) : SE X C (.UnaryOp op a pos) (eUn g fa) := pe_weak (pe_un ho ha) fun σ H Q h => lift_un h
theorem o_neg {ct : String → Addr} : UnR X (unaryOp .USub) (rD1 X.K ct gNeg) := by
  intro pins s σ H x v Q I rx h
  obtain ⟨v0, dx, d, rfl, sr, e, r1, h⟩ := h
  cases r1 <;> simp only [gNeg, Option.some.injEq, reduceCtorEq] at e
  subst e
  exact un_neg pins s σ _ _ v Q I rx ⟨_, rfl, h _ v0 .refl sr rfl (.int _)⟩
end

/-! ### built-in functions of values -/
abbrev BA := List D → Option D
inductive RepTL (K : PySem.W.Frag) (ct : String → Addr) (v : Vw) : List D → List V → Prop
  | nil : RepTL K ct v [] []
  | cons {d : D} {x : V} {ds : List D} {xs : List V} : RepT K ct v d x → RepTL K ct v ds xs → RepTL K ct v (d :: ds) (x :: xs)
theorem RepL.top {K : PySem.W.Frag} {ct : String → Addr} {v : Vw} (sr : SR K ct v) : ∀ {ds : List D} {xs : List V}, RepL K ct v.G v.m ds xs → RepTL K ct v (ds.map (rsv v.st)) xs
  | _, _, .nil => .nil
  | _, _, .cons h r => .cons (h.top sr) (RepL.top sr r)
def rDA (K : PySem.W.Frag) (ct : String → Addr) (g : BA) : List V → Hp → VK → Prop := fun xs H Q => ∃ v ds d, v.H = H ∧ SR K ct v ∧ g ds = some d ∧ RepTL K ct v ds xs ∧ ∀ z v', Le v v' → SR K ct v' → v'.st = v.st → Rep K ct v'.G v'.m d z → Q z v'.H
def eFn (g : BA) (a : As) : E := fun δ s => (a δ s).bind fun xs s1 => R.ofO (g (xs.map (rsv s1))) s1
section
variable {X : Cx} {C : Cc} {pos p : Pos} {x : Str} {id T : String} {e : Expr} {es : List Expr} {fa : As} {g : BA}
theorem lift_fn {K : PySem.W.Frag} {σ : L2.St} {H : Hp} {Q : VK} (h : liftE K C (eFn g fa) σ H Q) : tCB (rDA K C.ct g) (liftA K C fa) σ H Q := by
  obtain ⟨δ, v, re, rfl, h⟩ := h
  refine ⟨δ, v, re, rfl, on_mono (on_bind h) fun d x v1 l1 s1 r1 h1 => ?_⟩
  obtain ⟨z, e, h1⟩ := on_ofO h1
  exact ⟨v1, _, z, rfl, s1, e, r1.top s1, h1⟩
theorem se_callB (hc : CallR X (.builtin id) (rDA X.K C.ct g)) (hg : Gl X x) (hm : X.mg x = none) (hv : bootBuiltins x = some (.builtin id)) (ha : SA X C (e :: es) fa) (hn : x ≠ "__name__" := by decide) (hdb : (x == ("__debug__" : Str)) = false := by decide)
    (he : starEach (e :: es) X.env = (false, eval e X.env) :: starEach es X.env := by rfl) (hpl : (backTo pos (starEach es X.env)).any (·.1) = false := by rfl) : SE X C (.Call (.Name x p) (e :: es) [] pos) (eFn g fa) :=
  pe_weak (pe_callB hc hg hm hv ha hn hdb he hpl) fun σ H Q h => lift_fn h
theorem se_callT (hc : CallR X (.type T) (rDA X.K C.ct g)) (hg : Gl X x) (hm : X.mg x = none) (hv : bootBuiltins x = some (.type T)) (ha : SA X C (e :: es) fa) (hn : x ≠ "__name__" := by decide) (hdb : (x == ("__debug__" : Str)) = false := by decide)
    (he : starEach (e :: es) X.env = (false, eval e X.env) :: starEach es X.env := by rfl) (hpl : (backTo pos (starEach es X.env)).any (·.1) = false := by rfl) : SE X C (.Call (.Name x p) (e :: es) [] pos) (eFn g fa) :=
  pe_weak (pe_callTy hc hg hm hv ha hn hdb he hpl) fun σ H Q h => lift_fn h

def gLen : BA
  | [.lst xs] => some (.int xs.length)
  | [.tup xs] => some (.int xs.length)
  | [.str x] => if x.length ≤ sizeLine then some (.int x.length) else none
  | _ => none
def gMin2 : BA
  | [.int i, .int j] => some (.int (if j < i then j else i))
  | _ => none
def gMax2 : BA
  | [.int i, .int j] => some (.int (if j > i then j else i))
  | _ => none
def gAbs : BA
  | [.int i] => some (.int (if i < 0 then -i else i))
  | _ => none
def gInt : BA
  | [.int i] => some (.int i)
  | [.bl k] => some (.int (if k then 1 else 0))
  | [.str a] => match PySem.intText? a with
    | some n => if a.length ≤ 640 then some (.int n) else none
    | none => none
  | _ => none
def gStr : BA
  | [.int i] => if i.natAbs.log2 < 1920 then some (.str (toString i)) else none
  | _ => none
/-- a text's signs -/
def signs (x : Str) : List D := x.cps.toList.map fun c => .str ⟨#[c]⟩
def signsV (x : Str) : List V := x.cps.toList.map fun c => .str ⟨#[c]⟩
theorem RepL.signs {K : PySem.W.Frag} {ct : String → Addr} {G : Hp} {m : Nat → Option Addr} (x : Str) : RepL K ct G m (Gs.signs x) (signsV x) := by
  unfold Gs.signs signsV
  generalize x.cps.toList = l
  induction l with
  | nil => exact .nil
  | cons c r ih => exact .cons (.str _) ih
theorem call_list_text (hc : X.calm = true) : CallR X (.type "list") (fun xs H Q => ∃ z : Str, xs = [.str z] ∧ z.length ≤ sizeLine ∧ ∀ l, H l = none → Q (.ref l) (upd H l (.lst (signsV z)))) := by
  intro pins s σ H xs us Q I r h
  obtain ⟨z, e, hz, q⟩ := h
  subst e
  obtain ⟨u, eu, rx⟩ := vals1 r
  subst eu
  obtain ⟨t, rfl⟩ := rx
  refine call_list_str (I.ok.hd hc) z t (hn := hz) fun h' tk acc' c' hkeep hS hacc => ?_
  refine ⟨.ref s.heap.objs.size, upd H s.heap.objs.size (.lst (signsV z)), I.laid hkeep (Nat.le_refl _) (show ObjOk X.prog X.w _ _ _ (.lst (signsV z)) from ⟨?_, acc'.toList, c', ?_, ?_⟩), rfl, q _ (I.hok.fresh (Nat.le_refl _))⟩
  · simpa [signsV, Str.length] using hz
  · refine vals_of_at (by simp [signsV, hacc.1]) fun j x w h1 h2 => ?_
    obtain ⟨c, u, hky, hi⟩ := hacc.2 j w (by rw [← Array.getElem?_toList]; exact h2)
    have e2 : (signsV z)[j]? = some (V.str ⟨#[c]⟩) := by
      unfold signsV
      rw [List.getElem?_map, Array.getElem?_toList, hky]
      rfl
    rw [e2] at h1
    cases h1
    exact ⟨u, hi⟩
  · rw [Array.toArray_toList]; exact hS
def gList : BA
  | [.lst xs] => some (.lst xs)
  | [.tup xs] => some (.lst xs)
  | [.str x] => if x.length ≤ sizeLine then some (.lst (signs x)) else none
  | _ => none
def gTuple : BA
  | [.lst xs] => some (.tup xs)
  | [.tup xs] => some (.tup xs)
  | _ => none
def gDivmod : BA
  | [.int i, .int j] => if 0 < j ∧ Builtin.divisionGoesByPylong i j = false then some (.tup [.int (i / j), .int (i % j)]) else none
  | _ => none
def intsOf : List D → Option (List Int)
  | [] => some []
  | .int i :: r => (intsOf r).map (i :: ·)
  | _ => none
def blsOf : List D → Option (List Bool)
  | [] => some []
  | .bl i :: r => (blsOf r).map (i :: ·)
  | _ => none
def strsOf : List D → Option (List Str)
  | [] => some []
  | .str i :: r => (strsOf r).map (i :: ·)
  | _ => none
theorem intsOf_eq : ∀ {ds : List D} {ns : List Int}, intsOf ds = some ns → ds = ns.map D.int
  | [], _, e => by simp only [intsOf, Option.some.injEq] at e; subst e; rfl
  | .int i :: r, ns, e => by
    simp only [intsOf] at e
    cases q : intsOf r with
    | none => rw [q] at e; exact nomatch e
    | some ms => rw [q] at e; simp only [Option.map_some, Option.some.injEq] at e; subst e; rw [intsOf_eq q]; rfl
  | .non :: _, _, e => nomatch e
  | .bl _ :: _, _, e => nomatch e
  | .str _ :: _, _, e => nomatch e
  | .tup _ :: _, _, e => nomatch e
  | .lst _ :: _, _, e => nomatch e
  | .fn _ :: _, _, e => nomatch e
  | .ob _ :: _, _, e => nomatch e
  | .ev _ _ _ :: _, _, e => nomatch e
  | .dct _ _ :: _, _, e => nomatch e
theorem blsOf_eq : ∀ {ds : List D} {ns : List Bool}, blsOf ds = some ns → ds = ns.map D.bl
  | [], _, e => by simp only [blsOf, Option.some.injEq] at e; subst e; rfl
  | .bl i :: r, ns, e => by
    simp only [blsOf] at e
    cases q : blsOf r with
    | none => rw [q] at e; exact nomatch e
    | some ms => rw [q] at e; simp only [Option.map_some, Option.some.injEq] at e; subst e; rw [blsOf_eq q]; rfl
  | .non :: _, _, e => nomatch e
  | .int _ :: _, _, e => nomatch e
  | .str _ :: _, _, e => nomatch e
  | .tup _ :: _, _, e => nomatch e
  | .lst _ :: _, _, e => nomatch e
  | .fn _ :: _, _, e => nomatch e
  | .ob _ :: _, _, e => nomatch e
  | .ev _ _ _ :: _, _, e => nomatch e
  | .dct _ _ :: _, _, e => nomatch e
theorem strsOf_eq : ∀ {ds : List D} {ns : List Str}, strsOf ds = some ns → ds = ns.map D.str
  | [], _, e => by simp only [strsOf, Option.some.injEq] at e; subst e; rfl
  | .str i :: r, ns, e => by
    simp only [strsOf] at e
    cases q : strsOf r with
    | none => rw [q] at e; exact nomatch e
    | some ms => rw [q] at e; simp only [Option.map_some, Option.some.injEq] at e; subst e; rw [strsOf_eq q]; rfl
  | .non :: _, _, e => nomatch e
  | .int _ :: _, _, e => nomatch e
  | .bl _ :: _, _, e => nomatch e
  | .tup _ :: _, _, e => nomatch e
  | .lst _ :: _, _, e => nomatch e
  | .fn _ :: _, _, e => nomatch e
  | .ob _ :: _, _, e => nomatch e
  | .ev _ _ _ :: _, _, e => nomatch e
  | .dct _ _ :: _, _, e => nomatch e
theorem intsOf_map : ∀ ns : List Int, intsOf (ns.map D.int) = some ns
  | [] => rfl
  | n :: r => by simp only [List.map_cons, intsOf, intsOf_map r, Option.map_some]
theorem blsOf_map : ∀ ns : List Bool, blsOf (ns.map D.bl) = some ns
  | [] => rfl
  | n :: r => by simp only [List.map_cons, blsOf, blsOf_map r, Option.map_some]
theorem strsOf_map : ∀ ns : List Str, strsOf (ns.map D.str) = some ns
  | [] => rfl
  | n :: r => by simp only [List.map_cons, strsOf, strsOf_map r, Option.map_some]
def gSum : BA
  | [.lst xs] => (intsOf xs).map fun ns => .int ns.sum
  | _ => none
def gAll : BA
  | [.lst xs] => (blsOf xs).map fun ns => .bl (ns.all fun b => b)
  | _ => none
def gAny : BA
  | [.lst xs] => (blsOf xs).map fun ns => .bl (ns.any fun b => b)
  | _ => none
def gMin : BA
  | [.lst xs] => (intsOf xs).bind fun ns => ns.min?.map .int
  | _ => none
def gMax : BA
  | [.lst xs] => (intsOf xs).bind fun ns => ns.max?.map .int
  | _ => none
theorem b_len {ct : String → Addr} : CallR X (.builtin "len") (rDA X.K ct gLen) := by
  intro pins s σ H xs us Q I r h
  obtain ⟨v0, ds, d, rfl, sr, e, rl, h⟩ := h
  unfold gLen at e
  split at e
  · cases rl with
    | cons r1 r2 =>
      cases r2
      cases r1 with
      | lst p q =>
        simp only [Option.some.injEq] at e
        subst e
        refine call_len_seq pins s σ _ _ us Q I r ⟨_, _, rfl, .inl (p), ?_⟩
        rw [← q.length]
        exact h _ v0 .refl sr rfl (.int _)
  · cases rl with
    | cons r1 r2 =>
      cases r2
      cases r1 with
      | tup p q =>
        simp only [Option.some.injEq] at e
        subst e
        refine call_len_seq pins s σ _ _ us Q I r ⟨_, _, rfl, .inr (sqt_mono sr.sub p), ?_⟩
        rw [← q.length]
        exact h _ v0 .refl sr rfl (.int _)
  · cases rl with
    | cons r1 r2 =>
      cases r2
      cases r1
      split at e
      · rename_i hz
        simp only [Option.some.injEq] at e
        subst e
        exact call_len_str pins s σ _ _ us Q I r ⟨_, rfl, hz, h _ v0 .refl sr rfl (.int _)⟩
      · exact nomatch e
  · exact nomatch e
theorem b_min2 {ct : String → Addr} (hc : X.calm = true) : CallR X (.builtin "min") (rDA X.K ct gMin2) := by
  intro pins s σ H xs us Q I r h
  obtain ⟨v0, ds, d, rfl, sr, e, rl, h⟩ := h
  unfold gMin2 at e
  split at e
  · cases rl with
    | cons r1 r2 =>
      cases r2 with
      | cons r2 r3 =>
        cases r1; cases r2; cases r3
        simp only [Option.some.injEq] at e
        subst e
        exact call_min2 hc pins s σ _ _ us Q I r ⟨_, _, rfl, h _ v0 .refl sr rfl (.int _)⟩
  · exact nomatch e
theorem b_max2 {ct : String → Addr} (hc : X.calm = true) : CallR X (.builtin "max") (rDA X.K ct gMax2) := by
  intro pins s σ H xs us Q I r h
  obtain ⟨v0, ds, d, rfl, sr, e, rl, h⟩ := h
  unfold gMax2 at e
  split at e
  · cases rl with
    | cons r1 r2 =>
      cases r2 with
      | cons r2 r3 =>
        cases r1; cases r2; cases r3
        simp only [Option.some.injEq] at e
        subst e
        exact call_max2 hc pins s σ _ _ us Q I r ⟨_, _, rfl, h _ v0 .refl sr rfl (.int _)⟩
  · exact nomatch e
theorem b_abs {ct : String → Addr} : CallR X (.builtin "abs") (rDA X.K ct gAbs) := by
  intro pins s σ H xs us Q I r h
  obtain ⟨v0, ds, d, rfl, sr, e, rl, h⟩ := h
  unfold gAbs at e
  split at e
  · cases rl with
    | cons r1 r2 =>
      cases r1; cases r2
      simp only [Option.some.injEq] at e
      subst e
      exact call_abs pins s σ _ _ us Q I r ⟨_, rfl, h _ v0 .refl sr rfl (.int _)⟩
  · exact nomatch e
theorem b_int {ct : String → Addr} : CallR X (.type "int") (rDA X.K ct gInt) := by
  intro pins s σ H xs us Q I r h
  obtain ⟨v0, ds, d, rfl, sr, e, rl, h⟩ := h
  unfold gInt at e
  split at e
  · cases rl with
    | cons r1 r2 =>
      cases r1; cases r2
      simp only [Option.some.injEq] at e
      subst e
      exact call_int1 pins s σ _ _ us Q I r (.inl ⟨_, rfl, h _ v0 .refl sr rfl (.int _)⟩)
  · cases rl with
    | cons r1 r2 =>
      cases r1; cases r2
      simp only [Option.some.injEq] at e
      subst e
      exact call_int1 pins s σ _ _ us Q I r (.inr ⟨_, rfl, h _ v0 .refl sr rfl (.int _)⟩)
  · cases rl with
    | cons r1 r2 =>
      cases r1; cases r2
      split at e
      · rename_i n hn
        split at e
        · rename_i hz
          simp only [Option.some.injEq] at e
          subst e
          exact call_int_str pins s σ _ _ us Q I r ⟨_, n, rfl, hn, hz, h _ v0 .refl sr rfl (.int _)⟩
        · exact nomatch e
      · exact nomatch e
  · exact nomatch e
theorem b_str {ct : String → Addr} : CallR X (.type "str") (rDA X.K ct gStr) := by
  intro pins s σ H xs us Q I r h
  obtain ⟨v0, ds, d, rfl, sr, e, rl, h⟩ := h
  unfold gStr at e
  split at e
  · cases rl with
    | cons r1 r2 =>
      cases r1; cases r2
      split at e
      · rename_i hz
        simp only [Option.some.injEq] at e
        subst e
        exact call_str_int pins s σ _ _ us Q I r ⟨_, rfl, hz, h _ v0 .refl sr rfl (.str _)⟩
      · exact nomatch e
  · exact nomatch e
theorem b_list {ct : String → Addr} (hc : X.calm = true) : CallR X (.type "list") (rDA X.K ct gList) := by
  intro pins s σ H xs us Q I r h
  obtain ⟨v0, ds, d, rfl, sr, e, rl, h⟩ := h
  unfold gList at e
  split at e
  · cases rl with
    | cons r1 r2 =>
      cases r2
      cases r1 with
      | lst p q =>
        simp only [Option.some.injEq] at e
        subst e
        exact call_list_of pins s σ _ _ us Q I r ⟨_, _, rfl, .inl (p), fun c hc => let ⟨l, s2⟩ := new_ok (o := .lst _) sr hc; h _ _ l s2 rfl (.lst (SqL.of upd_same) (l.repl q))⟩
  · cases rl with
    | cons r1 r2 =>
      cases r2
      cases r1 with
      | tup p q =>
        simp only [Option.some.injEq] at e
        subst e
        exact call_list_of pins s σ _ _ us Q I r ⟨_, _, rfl, .inr (sqt_mono sr.sub p), fun c hc => let ⟨l, s2⟩ := new_ok (o := .lst _) sr hc; h _ _ l s2 rfl (.lst (SqL.of upd_same) (l.repl q))⟩
  · rename_i z
    cases rl with
    | cons r1 r2 =>
      cases r2
      cases r1
      split at e
      · rename_i hz
        simp only [Option.some.injEq] at e
        subst e
        exact call_list_text hc pins s σ _ _ us Q I r ⟨z, rfl, hz, fun c hc => let ⟨l, s2⟩ := new_ok (o := .lst (signsV z)) sr hc; h _ _ l s2 rfl (.lst (SqL.of upd_same) (RepL.signs z))⟩
      · exact nomatch e
  · exact nomatch e
theorem b_tuple {ct : String → Addr} : CallR X (.type "tuple") (rDA X.K ct gTuple) := by
  intro pins s σ H xs us Q I r h
  obtain ⟨v0, ds, d, rfl, sr, e, rl, h⟩ := h
  unfold gTuple at e
  split at e
  · cases rl with
    | cons r1 r2 =>
      cases r2
      cases r1 with
      | lst p q =>
        simp only [Option.some.injEq] at e
        subst e
        exact call_tuple_of pins s σ _ _ us Q I r ⟨_, _, rfl, .inl ⟨p, fun c hc => let ⟨l, s2⟩ := new_ok (o := .tup _) sr hc; h _ _ l s2 rfl (.tup (SqT.of upd_same) (l.repl q))⟩⟩
  · cases rl with
    | cons r1 r2 =>
      cases r2
      cases r1 with
      | tup p q =>
        simp only [Option.some.injEq] at e
        subst e
        exact call_tuple_of pins s σ _ _ us Q I r ⟨_, _, rfl, .inr ⟨sqt_mono sr.sub p, h _ v0 .refl sr rfl (.tup p q)⟩⟩
  · exact nomatch e
theorem b_divmod {ct : String → Addr} : CallR X (.builtin "divmod") (rDA X.K ct gDivmod) := by
  intro pins s σ H xs us Q I r h
  obtain ⟨v0, ds, d, rfl, sr, e, rl, h⟩ := h
  unfold gDivmod at e
  split at e
  · cases rl with
    | cons r1 r2 =>
      cases r2 with
      | cons r2 r3 =>
        cases r1; cases r2; cases r3
        split at e
        · rename_i hz
          simp only [Option.some.injEq] at e
          subst e
          exact call_divmodW pins s σ _ _ us Q I r ⟨_, _, rfl, hz, fun c hc => let ⟨l, s2⟩ := new_ok (o := .tup _) sr hc; h _ _ l s2 rfl (.tup (SqT.of upd_same) (.cons (.int _) (.cons (.int _) .nil)))⟩
        · exact nomatch e
  · exact nomatch e
theorem b_sum {ct : String → Addr} (hc : X.calm = true) : CallR X (.builtin "sum") (rDA X.K ct gSum) := by
  intro pins s σ H xs us Q I r h
  obtain ⟨v0, ds, d, rfl, sr, e, rl, h⟩ := h
  unfold gSum at e
  split at e
  · rename_i ys
    cases q1 : intsOf ys with
    | none => rw [q1] at e; exact nomatch e
    | some ns =>
      rw [q1] at e
      simp only [Option.map_some, Option.some.injEq] at e
      subst e
      have e2 := intsOf_eq q1
      subst e2
      cases rl with
      | cons r1 r2 =>
        cases r2
        cases r1 with
        | lst p q =>
          have e3 := RepL.of_ints q
          subst e3
          exact cr_sum hc pins s σ _ _ us Q I r ⟨_, ns, rfl, p, h _ v0 .refl sr rfl (.int _)⟩
  · exact nomatch e
theorem b_all {ct : String → Addr} (hc : X.calm = true) : CallR X (.builtin "all") (rDA X.K ct gAll) := by
  intro pins s σ H xs us Q I r h
  obtain ⟨v0, ds, d, rfl, sr, e, rl, h⟩ := h
  unfold gAll at e
  split at e
  · rename_i ys
    cases q1 : blsOf ys with
    | none => rw [q1] at e; exact nomatch e
    | some ns =>
      rw [q1] at e
      simp only [Option.map_some, Option.some.injEq] at e
      subst e
      have e2 := blsOf_eq q1
      subst e2
      cases rl with
      | cons r1 r2 =>
        cases r2
        cases r1 with
        | lst p q =>
          have e3 := RepL.of_bls q
          subst e3
          exact cr_all hc pins s σ _ _ us Q I r ⟨_, ns, rfl, p, h _ v0 .refl sr rfl (.bl _)⟩
  · exact nomatch e
theorem b_any {ct : String → Addr} (hc : X.calm = true) : CallR X (.builtin "any") (rDA X.K ct gAny) := by
  intro pins s σ H xs us Q I r h
  obtain ⟨v0, ds, d, rfl, sr, e, rl, h⟩ := h
  unfold gAny at e
  split at e
  · rename_i ys
    cases q1 : blsOf ys with
    | none => rw [q1] at e; exact nomatch e
    | some ns =>
      rw [q1] at e
      simp only [Option.map_some, Option.some.injEq] at e
      subst e
      have e2 := blsOf_eq q1
      subst e2
      cases rl with
      | cons r1 r2 =>
        cases r2
        cases r1 with
        | lst p q =>
          have e3 := RepL.of_bls q
          subst e3
          exact cr_any hc pins s σ _ _ us Q I r ⟨_, ns, rfl, p, h _ v0 .refl sr rfl (.bl _)⟩
  · exact nomatch e
end
/-! ### [e, ..] * n -/
def repD (xs : List D) (n : Nat) : List D := (List.replicate n xs).flatten
theorem RepL.rep {K : PySem.W.Frag} {ct : String → Addr} {G : Hp} {m : Nat → Option Addr} {ds : List D} {vs : List V} (r : RepL K ct G m ds vs) : ∀ n : Nat, RepL K ct G m (repD ds n) (List.replicate n vs).flatten
  | 0 => .nil
  | n + 1 => by
    unfold repD
    rw [List.replicate_succ, List.replicate_succ, List.flatten_cons, List.flatten_cons]
    exact r.append (RepL.rep r n)
/-- [e, ..] * n: the list, frozen (b = false) or a thing of the store -/
def eRep (keep : Bool) (r : As) (b : E) : E := fun δ s => (r δ s).bind fun xs s1 => if xs.length ≤ sizeLine then ((b δ s1).bind fun y s2 => match y with
  | .int k => if -(2 ^ 63) ≤ k ∧ k < 2 ^ 63 ∧ xs.length * k.toNat ≤ sizeLine then (if keep = true then .ok (.ob s2.length) (s2 ++ [.lst (repD xs k.toNat)]) else .ok (.lst (repD xs k.toNat)) s2) else .stk
  | _ => .stk) else .stk
theorem se_rep {X : Cx} {C : Cc} {pos p2 : Pos} {es : List Expr} {b : Expr} {r : As} {fb : E} (keep : Bool) (h : SA X C es r) (hb : SE X C b fb) : SE X C (.BinOp (.List es p2) .Mult b pos) (eRep keep r fb) :=
  pe_weak (pe_op op_rep (pe_lst h) hb) fun σ H Q ⟨δ, v, re, eH, h⟩ => ⟨δ, v, re, eH, on_mono (on_bind h) fun ds vs v1 l1 s1 r1 h1 => by
    have hl := r1.length
    split at h1
    · rename_i z
      refine ⟨by omega, fun p hp => ?_⟩
      obtain ⟨l2, s2⟩ := more_ok s1 (same_new hp (.lst vs))
      refine ⟨δ, _, (re.step l1 s1).step l2 s2, rfl, on_mono (on_bind (on_step l2 h1)) fun y x v3 l3 s3 r3 h3 => ?_⟩
      cases r3 <;> first
        | exact h3.elim
        | skip
      rename_i k
      simp only at h3
      split at h3
      · rename_i hz
        have hH : v3.H p = some (.lst vs) := l3.h p _ upd_same fun q => by
          obtain ⟨i, o, a, e, l, em, q⟩ := q
          obtain ⟨_, w, hw, _⟩ := s1.obj_ne e l em
          rcases q with rfl | ⟨C, fs, q⟩
          · rw [hp] at hw
            cases hw
          · have q' : upd v1.H p (.lst vs) a = some (.ins C p fs) := q
            rw [upd_ne (ne_of_none hw hp)] at q'
            obtain ⟨d1, _⟩ := s1.dx e l em q'
            rw [hp] at d1
            cases d1
        refine ⟨p, k, vs, rfl, rfl, hH, hz.1, hz.2.1, by rw [← hl]; exact hz.2.2, fun q hq => ?_⟩
        have r4 := (l2.trans l3).repl r1
        split at h3
        · obtain ⟨l5, s5⟩ := newL_ok (ds := repD ds k.toNat) s3 hq (r4.rep k.toNat)
          exact h3 (.ref q) _ l5 s5 rfl (.ob mset_same)
        · obtain ⟨l5, s5⟩ := new_ok (o := .lst (List.replicate k.toNat vs).flatten) s3 hq
          exact h3 (.ref q) _ l5 s5 rfl (.lst (SqL.of upd_same) (l5.repl (r4.rep k.toNat)))
      · exact h3.elim
    · exact h1.elim⟩
end Gs

/-! G4: items, slices, isinstance, methods of texts. -/
namespace Gs
open PySem L2

/-! ### items -/
theorem RepL.atI {K : PySem.W.Frag} {ct : String → Addr} {G : Hp} {m : Nat → Option Addr} {ds : List D} {vs : List V} {i : Int} {d : D} (r : RepL K ct G m ds vs) (e : L2.atI ds i = some d) : ∃ v, L2.atI vs i = some v ∧ Rep K ct G m d v := by
  unfold L2.atI at e ⊢
  rw [r.length] at e
  cases q : ixN vs.length i with
  | none => rw [q] at e; exact nomatch e
  | some j => rw [q] at e; exact r.get e
def gIx : B2
  | .lst xs, .int i => atI xs i
  | .tup xs, .int i => atI xs i
  | .str z, .int i => if z.length ≤ sizeLine then (atI z.cps.toList i).map fun c => .str ⟨#[c]⟩ else none
  | _, _ => none
section
variable {X : Cx} {C : Cc} {pos p2 : Pos} {a b : Expr} {fa fb : E}
theorem x_ix {ct : String → Addr} : IxR X (rD X.K ct gIx) := by
  intro value slice pins s σ H x y v u Q I rx ry h hs
  obtain ⟨v0, dx, dy, d, rfl, sr, e, r1, r2, h⟩ := h
  cases r1 with
  | lst p q =>
    cases r2 <;> simp only [gIx, reduceCtorEq] at e
    obtain ⟨v', e1, r3⟩ := q.atI e
    exact ix_list value slice pins s σ _ _ _ v u Q I rx ry ⟨_, _, _, _, rfl, rfl, p, e1, h _ v0 .refl sr rfl r3⟩ hs
  | tup p q =>
    cases r2 <;> simp only [gIx, reduceCtorEq] at e
    obtain ⟨v', e1, r3⟩ := q.atI e
    exact ix_tup value slice pins s σ _ _ _ v u Q I rx ry ⟨_, _, _, _, rfl, rfl, sqt_mono sr.sub p, e1, h _ v0 .refl sr rfl r3⟩ hs
  | str z =>
    cases r2 <;> simp only [gIx, reduceCtorEq] at e
    split at e
    · rename_i hz
      cases q : atI z.cps.toList _ with
      | none => rw [q] at e; exact nomatch e
      | some c =>
        rw [q] at e
        simp only [Option.map_some, Option.some.injEq] at e
        subst e
        exact ix_str value slice pins s σ _ _ _ v u Q I rx ry ⟨_, _, c, rfl, rfl, hz, q, h _ v0 .refl sr rfl (.str _)⟩ hs
    · exact nomatch e
  | non => cases r2 <;> simp only [gIx, reduceCtorEq] at e
  | bl b => cases r2 <;> simp only [gIx, reduceCtorEq] at e
  | int b => cases r2 <;> simp only [gIx, reduceCtorEq] at e
  | fn a => cases r2 <;> simp only [gIx, reduceCtorEq] at e
  | ob a => cases r2 <;> simp only [gIx, reduceCtorEq] at e
  | ev a => cases r2 <;> simp only [gIx, reduceCtorEq] at e
  | clo a => cases r2 <;> simp only [gIx, reduceCtorEq] at e
  | dct p l q => cases r2 <;> simp only [gIx, reduceCtorEq] at e
theorem se_ix (ha : SE X C a fa) (hb : SE X C b fb) (hs : PlainIx b := by intro _ _; rfl) : SE X C (.Subscript a b pos) (eBin gIx fa fb) := pe_weak (pe_ix x_ix ha hb hs) fun σ H Q h => lift_bin h

/-! ### slices -/
abbrev Os := Sl → Sto → R (Option Int)
def liftO (K : PySem.W.Frag) (C : Cc) (f : Os) : TO := fun σ H Q => ∃ δ v, RE K C σ δ v ∧ v.H = H ∧ on K C σ v rB (f δ v.st) fun _ b v' => Q b v'.H
abbrev SO (X : Cx) (C : Cc) (e : Option Expr) (f : Os) : Prop := PO X e (liftO X.K C f)
theorem po_weak {X : Cx} {e : Option Expr} {t t' : TO} (h : PO X e t) (w : ∀ σ H Q, t' σ H Q → t σ H Q) : PO X e t' := ⟨fun pins s σ H Q I z => h.run pins s σ H Q I (w σ H Q z)⟩
def oNone : Os := fun _ s => .ok none s
def oSome (f : E) : Os := fun δ s => (f δ s).bind fun d s1 => match d with
  | .int i => .ok (some i) s1
  | _ => .stk
theorem so_none : SO X C none oNone := po_weak po_none fun σ H Q ⟨δ, v, re, eH, h⟩ => by subst eH; exact on_self re.sr h rfl
theorem so_some (ha : SE X C a fa) : SO X C (some a) (oSome fa) := po_weak (po_some ha) fun σ H Q ⟨δ, v, re, eH, h⟩ =>
  ⟨δ, v, re, eH, on_mono (on_bind h) fun d x v1 l1 s1 r1 h1 => by
    cases r1 <;> first
      | exact h1.elim
      | exact ⟨_, rfl, on_self s1 h1 rfl⟩⟩
def cutD (xs : List D) (lo hi : Option Int) : List D := (xs.drop (HT.sIx xs.length 0 lo)).take (HT.sIx xs.length xs.length hi - HT.sIx xs.length 0 lo)
theorem RepL.cut {K : PySem.W.Frag} {ct : String → Addr} {G : Hp} {m : Nat → Option Addr} {ds : List D} {vs : List V} (r : RepL K ct G m ds vs) (lo hi : Option Int) : RepL K ct G m (cutD ds lo hi) (cutV vs lo hi) := by
  unfold cutD cutV
  rw [r.length]
  exact (r.drop _).take _
def gSl : D → Option Int → Option Int → Option D
  | .lst xs, lo, hi => some (.lst (cutD xs lo hi))
  | .tup xs, lo, hi => some (.tup (cutD xs lo hi))
  | .str z, lo, hi => if z.length ≤ sizeLine then some (.str (cutS z lo hi)) else none
  | _, _, _ => none
def rDS (K : PySem.W.Frag) (ct : String → Addr) (g : D → Option Int → Option Int → Option D) : V → Option Int → Option Int → Hp → VK → Prop := fun x lo hi H Q => ∃ v dx d, v.H = H ∧ SR K ct v ∧ g dx lo hi = some d ∧ RepT K ct v dx x ∧ ∀ z v', Le v v' → SR K ct v' → v'.st = v.st → Rep K ct v'.G v'.m d z → Q z v'.H
theorem s_sl {ct : String → Addr} : SlR X (rDS X.K ct gSl) := by
  intro pins s σ H x v vl vu lo hi sl Q I rx hs pl pu h
  obtain ⟨v0, dx, d, rfl, sr, e, r1, h⟩ := h
  cases r1 with
  | lst p q =>
    simp only [gSl, Option.some.injEq] at e
    subst e
    exact sl_list pins s σ _ _ v vl vu lo hi sl Q I rx hs pl pu ⟨_, _, rfl, p, fun c hc => let ⟨l, s2⟩ := new_ok (o := .lst _) sr hc; h _ _ l s2 rfl (.lst (SqL.of upd_same) ((q.cut lo hi).mono l.g l.m))⟩
  | @tup c0 vs0 ds0 p q =>
    simp only [gSl, Option.some.injEq] at e
    subst e
    refine sl_tupA pins s σ _ _ v vl vu lo hi sl Q I rx hs pl pu ⟨_, _, rfl, sqt_mono sr.sub p, fun z => ?_, fun _ c hc => let ⟨l, s2⟩ := new_ok (o := .tup _) sr hc; h _ _ l s2 rfl (.tup (SqT.of upd_same) (l.repl (q.cut lo hi)))⟩
    refine h _ v0 .refl sr rfl (.tup p ?_)
    have e2 := q.cut lo hi
    have e3 : cutV vs0 lo hi = vs0 := by
      unfold cutV
      rw [z.1, z.2, Nat.sub_zero, List.drop_zero, List.take_length]
    rw [e3] at e2
    exact e2
  | str z =>
    simp only [gSl] at e
    split at e
    · rename_i hz
      simp only [Option.some.injEq] at e
      subst e
      exact sl_str pins s σ _ _ v vl vu lo hi sl Q I rx hs pl pu ⟨_, rfl, hz, h _ v0 .refl sr rfl (.str _)⟩
    · exact nomatch e
  | non => simp only [gSl, reduceCtorEq] at e
  | bl b => simp only [gSl, reduceCtorEq] at e
  | int b => simp only [gSl, reduceCtorEq] at e
  | fn a => simp only [gSl, reduceCtorEq] at e
  | ob a => simp only [gSl, reduceCtorEq] at e
  | ev a => simp only [gSl, reduceCtorEq] at e
  | clo a => simp only [gSl, reduceCtorEq] at e
  | dct p l q => simp only [gSl, reduceCtorEq] at e
def eSl (a : E) (lo hi : Os) : E := fun δ s => (a δ s).bind fun x s1 => (lo δ s1).bind fun l s2 => (hi δ s2).bind fun h s3 => R.ofO (gSl (rsv s3 x) l h) s3
theorem se_sl {lo hi : Option Expr} {fl fh : Os} (ha : SE X C a fa) (hl : SO X C lo fl) (hh : SO X C hi fh) : SE X C (.Subscript a (.Slice lo hi none p2) pos) (eSl fa fl fh) :=
  pe_weak (pe_slice s_sl ha hl hh) fun σ H Q ⟨δ, v, re, eH, h⟩ => by
    refine ⟨δ, v, re, eH, on_mono (on_bind h) fun d x v1 l1 s1 r1 h1 => ?_⟩
    refine ⟨δ, v1, re.step l1 s1, rfl, on_mono (on_bind h1) fun l y v2 l2 s2 e2 h2 => ?_⟩
    cases e2
    refine ⟨δ, v2, (re.step l1 s1).step l2 s2, rfl, on_mono (on_bind h2) fun u y v3 l3 s3 e3 h3 => ?_⟩
    cases e3
    obtain ⟨z, e, h3⟩ := on_ofO h3
    exact ⟨v3, _, z, rfl, s3, e, ((l2.trans l3).rep r1).top s3, h3⟩
/-- xs[::-1] -/
def gRev : B1
  | .lst xs => some (.lst xs.reverse)
  | _ => none
theorem se_rev {k : Nat} {p1 p3 p4 : Pos} (ha : SE X C a fa) : SE X C (.Subscript a (.Slice none none (some (.UnaryOp .USub (.Constant (.int 1) k p1) p3)) p4) pos) (eUn gRev fa) :=
  pe_weak (pe_revL ha) fun σ H Q h => by
    obtain ⟨δ, v, re, eH, h1⟩ := lift_un h
    refine ⟨δ, v, re, eH, on_mono h1 fun d x v1 l1 s1 r1 h2 => ?_⟩
    obtain ⟨v2, dx, d2, eH2, sr, e, r2, h2⟩ := h2
    cases r2 <;> simp only [gRev, Option.some.injEq, reduceCtorEq] at e
    rename_i c vs ds p q
    subst e
    rw [← eH2]
    exact ⟨_, _, rfl, p, fun l hl => let ⟨l9, s9⟩ := new_ok (o := .lst _) sr hl; h2 _ _ l9 s9 rfl (.lst (SqL.of upd_same) (l9.repl q.reverse))⟩

/-! ### isinstance -/
def tyN : D → Option String
  | .non => some "NoneType"
  | .bl _ => some "bool"
  | .int _ => some "int"
  | .str _ => some "str"
  | .tup _ => some "tuple"
  | .lst _ => some "list"
  | .fn _ => none
  | .ob _ => none
  | .ev _ _ _ => none
  | .clo _ _ => none
  | .dct _ _ => some "dict"
theorem RepT.tyx {K : PySem.W.Frag} {ct : String → Addr} {w : Vw} (sr : SR K ct w) {d : D} {v : V} {n : String} (r : RepT K ct w d v) (e : tyN d = some n) : TyX K w.H v (.type n) := by
  cases r <;> simp only [tyN, Option.some.injEq, reduceCtorEq] at e <;> subst e
  · exact .base .non
  · exact .base (.bl _)
  · exact .base (.int _)
  · exact .base (.str _)
  · rename_i a vs ds h r
    rcases sqt_mono sr.sub h with (h | ⟨o, h⟩) | ⟨o, its, m, h, c, _⟩
    · exact .base (.tup h)
    · exact .fTuple h
    · exact .kTuple h c
  · rename_i a vs ds h r
    rcases h with (h | ⟨o, h⟩) | ⟨o, its, m, h, c, _⟩
    · exact .base (.lst h)
    · exact .base (.frz h)
    · exact .kList h c
  · rename_i a vs ks ds h l r
    exact .base (.dK h)
theorem RepT.more {K : PySem.W.Frag} {ct : String → Addr} {w w' : Vw} {d : D} {v : V} (l : Le w w') (e : w'.G = w.G) (hh : Same w.H w'.H) (r : RepT K ct w d v) : RepT K ct w' d v := by
  cases r with
  | non => exact .non
  | bl b => exact .bl b
  | int b => exact .int b
  | str b => exact .str b
  | fn s => exact .fn s
  | ob h => exact .ob (l.m _ _ h)
  | tup h r => exact .tup (sqt_mono l.g h) (l.repl r)
  | lst h r => exact .lst (hh.seq h) (l.repl r)
  | dct h k r => exact .dct (hh _ _ h) k (l.repl r)
  | ev h => exact .ev (l.rep h)
  | clo h => exact .clo (l.rep h)
/-- the built-in class n of a datum's class -/
def isTy : String → String → Bool
  | "bool", "int" => true
  | a, b => a == b
def gIsi (n : String) : B1 := fun d => (tyN d).map fun t => .bl (isTy t n)
def okTy (n : String) : Bool := ["NoneType", "bool", "int", "str", "tuple", "list", "dict"].all fun t => decide (kitB t n = some (isTy t n))
theorem tyN_mem {d : D} {t : String} (h : tyN d = some t) : t ∈ ["NoneType", "bool", "int", "str", "tuple", "list", "dict"] := by
  cases d <;> simp only [tyN, Option.some.injEq, reduceCtorEq] at h <;> subst h <;> simp
theorem se_isi {pf pn : Pos} {n : String} {nx : Str} (ha : SE X C a fa) (hg : Gl X "isinstance") (hm : X.mg "isinstance" = none) (hgn : Gl X nx) (hmn : X.mg nx = none) (hv : bootBuiltins nx = some (.type n)) (hk : okTy n = true := by decide +kernel)
    (hn : nx ≠ "__name__" := by decide) (hd : (nx == ("__debug__" : Str)) = false := by decide) (hvi : bootBuiltins "isinstance" = some (.builtin "isinstance") := by decide +kernel)
    (hs : starEach [a, .Name nx pn] X.env = (false, eval a X.env) :: starEach [.Name nx pn] X.env := by rfl) (hpl : (backTo pos (starEach [.Name nx pn] X.env)).any (·.1) = false := by rfl)
    (hs2 : starEach [.Name nx pn] X.env = (false, eval (.Name nx pn) X.env) :: starEach [] X.env := by rfl) :
    SE X C (.Call (.Name "isinstance" pf) [a, .Name nx pn] [] pos) (eUn (gIsi n) fa) :=
  pe_weak (pe_callB call_isi hg hm hvi (pa_cons ha (pa_cons (pe_bltn (v := .ty n) hgn hmn hv rfl hn hd) pa_nil hs2) hs) (by decide) (by decide) hs hpl) fun σ H Q h => by
    obtain ⟨δ, v8, re, eH, h1⟩ := lift_un h
    refine ⟨δ, v8, re, eH, on_mono h1 fun d v v1 l1 s1 r1 h2 => ?_⟩
    obtain ⟨v2, dx, d2, eH2, sr, e, r2, h2⟩ := h2
    rw [← eH2]
    unfold gIsi at e
    cases q : tyN dx with
    | none => rw [q] at e; exact nomatch e
    | some t =>
      rw [q] at e
      simp only [Option.map_some, Option.some.injEq] at e
      subst e
      have z : kitB t n = some (isTy t n) := of_decide_eq_true (List.all_eq_true.mp hk t (tyN_mem q))
      exact ⟨v, .ty n, .type t, .type n, isTy t n, rfl, .ty n, r2.tyx sr q, kit_ty z, h2 _ v2 .refl sr rfl (.bl _)⟩
/-- isinstance(x, (T, U)) -/
def gIsi2 (n m : String) : B1 := fun d => (tyN d).map fun t => .bl (isTy t n || isTy t m)
theorem se_isi2 {pf pn pm pt : Pos} {kt : Nat} {n m : String} {nx mx : Str} (ha : SE X C a fa) (hg : Gl X "isinstance") (hm : X.mg "isinstance" = none) (hgn : Gl X nx) (hmn : X.mg nx = none) (hv : bootBuiltins nx = some (.type n)) (hgm : Gl X mx) (hmm : X.mg mx = none) (hvm : bootBuiltins mx = some (.type m)) (hk : okTy n = true := by decide +kernel) (hk2 : okTy m = true := by decide +kernel)
    (hn : nx ≠ "__name__" := by decide) (hd : (nx == ("__debug__" : Str)) = false := by decide) (hn2 : mx ≠ "__name__" := by decide) (hd2 : (mx == ("__debug__" : Str)) = false := by decide) (hvi : bootBuiltins "isinstance" = some (.builtin "isinstance") := by decide +kernel)
    (hs : starEach [a, .Tuple [.Name nx pn, .Name mx pm] kt pt] X.env = (false, eval a X.env) :: starEach [.Tuple [.Name nx pn, .Name mx pm] kt pt] X.env := by rfl) (hpl : (backTo pos (starEach [.Tuple [.Name nx pn, .Name mx pm] kt pt] X.env)).any (·.1) = false := by rfl)
    (hs2 : starEach [.Tuple [.Name nx pn, .Name mx pm] kt pt] X.env = (false, eval (.Tuple [.Name nx pn, .Name mx pm] kt pt) X.env) :: starEach [] X.env := by rfl)
    (hs3 : starEach [.Name nx pn, .Name mx pm] X.env = (false, eval (.Name nx pn) X.env) :: starEach [.Name mx pm] X.env := by rfl) (hs4 : starEach [.Name mx pm] X.env = (false, eval (.Name mx pm) X.env) :: starEach [] X.env := by rfl) :
    SE X C (.Call (.Name "isinstance" pf) [a, .Tuple [.Name nx pn, .Name mx pm] kt pt] [] pos) (eUn (gIsi2 n m) fa) :=
  pe_weak (pe_callB call_isiT hg hm hvi (pa_cons ha (pa_cons (pe_tup (pa_cons (pe_bltn (v := .ty n) hgn hmn hv rfl hn hd) (pa_cons (pe_bltn (v := .ty m) hgm hmm hvm rfl hn2 hd2) pa_nil hs4) hs3)) pa_nil hs2) hs) (by decide) (by decide) hs hpl) fun σ H Q h => by
    obtain ⟨δ, v8, re, eH, h1⟩ := lift_un h
    refine ⟨δ, v8, re, eH, on_mono h1 fun d v v1 l1 s1 r1 h2 => ?_⟩
    obtain ⟨v2, dx, d2, eH2, sr, e, r2, h2⟩ := h2
    rw [← eH2]
    unfold gIsi2 at e
    cases q : tyN dx with
    | none => rw [q] at e; exact nomatch e
    | some t =>
      rw [q] at e
      simp only [Option.map_some, Option.some.injEq] at e
      subst e
      have z : kitB t n = some (isTy t n) := of_decide_eq_true (List.all_eq_true.mp hk t (tyN_mem q))
      have z2 : kitB t m = some (isTy t m) := of_decide_eq_true (List.all_eq_true.mp hk2 t (tyN_mem q))
      refine ⟨by show 2 ≤ sizeLine; decide, fun c hc => ?_⟩
      obtain ⟨l9, s9⟩ := more_ok sr (same_new hc (.tup [V.ty n, V.ty m]))
      have ty : TyX X.K (upd v2.H c (.tup [V.ty n, V.ty m])) v (.type t) := (r2.more l9 rfl (same_new hc _)).tyx s9 q
      refine ⟨v, c, [.ty n, .ty m], .type t, [.type n, .type m], isTy t n || isTy t m, rfl, upd_same, .cons (.ty n) (.cons (.ty m) .nil), ty, ?_, h2 _ _ l9 s9 rfl (.bl _)⟩
      refine kitAny_cons (kit_ty z) (fun b1 => ?_) (fun b1 => ?_)
      · rw [b1, Bool.false_or]
        exact kitAny_cons (kit_ty z2) (fun b2 => by rw [b2]; exact kitAny_nil) (fun b2 => b2)
      · rw [b1, Bool.true_or]

/-! ### methods of texts -/
def rDM (K : PySem.W.Frag) (ct : String → Addr) (g : D → List D → Option D) : V → List V → Hp → VK → Prop := fun x xs H Q => ∃ v dx ds d, v.H = H ∧ SR K ct v ∧ g dx ds = some d ∧ RepT K ct v dx x ∧ RepTL K ct v ds xs ∧ ∀ z v', Le v v' → SR K ct v' → v'.st = v.st → Rep K ct v'.G v'.m d z → Q z v'.H
def isStr : D → Bool
  | .str _ => true
  | _ => false
def eM1 (g : D → List D → Option D) (o a : E) : E := fun δ s => (o δ s).bind fun x s1 => if isStr x then (a δ s1).bind fun y s2 => R.ofO (g x [rsv s2 y]) s2 else .stk
theorem se_m1 {o : Expr} {fo : E} {g : D → List D → Option D} {id : String} {name : Str} {apos : Pos} (slot : PySem.Slot "str" name id) (ty : typeOf (.builtin id) = pure (.type "method_descriptor")) (rule : MtR X id (rDM X.K C.ct g)) (ho : SE X C o fo) (ha : SE X C a fa)
    (hs : starEach [a] X.env = [(false, eval a X.env)] := by rfl) (hbase : attributeBase o name X.env (eval o X.env) = eval o X.env := by rfl) (hline : (apos.endLine == pos.line) = true := by rfl) : SE X C (.Call (.Attribute o name apos) [a] [] pos) (eM1 g fo fa) :=
  pe_weak (pe_m1 slot ty rule ho ha hs hbase hline) fun σ H Q ⟨δ, v, re, eH, h⟩ => by
    refine ⟨δ, v, re, eH, on_mono (on_bind h) fun d x v1 l1 s1 r1 h1 => ?_⟩
    cases r1 <;> first
      | exact h1.elim
      | skip
    rename_i z
    refine ⟨⟨z, rfl⟩, δ, v1, re.step l1 s1, rfl, on_mono (on_bind (show on X.K C σ v1 (rE X.K C.ct) ((fa δ v1.st).bind fun y s2 => R.ofO (g (.str z) [rsv s2 y]) s2) _ from h1)) fun d2 x2 v2 l2 s2 r2 h2 => ?_⟩
    obtain ⟨w, e, h2⟩ := on_ofO h2
    exact ⟨v2, _, _, w, rfl, s2, e, .str z, .cons (r2.top s2) .nil, h2⟩
def gFind : D → List D → Option D
  | .str a, [.str b] => some (.int (Txt.find a b))
  | _, _ => none
def gStarts : D → List D → Option D
  | .str a, [.str b] => some (.bl (Txt.startswith a b))
  | _, _ => none
def gPart : D → List D → Option D
  | .str a, [.str b] => if (b.length == 0) = false ∧ a.length ≤ sizeLine then some (.tup [.str (Txt.partition a b).1, .str (Txt.partition a b).2.1, .str (Txt.partition a b).2.2]) else none
  | _, _ => none
def gSplit : D → List D → Option D
  | .str a, [.str b] => if (b.length == 0) = false ∧ a.length + 2 ≤ sizeLine then some (.lst ((Txt.split a b).map .str)) else none
  | _, _ => none
def gJoin : D → List D → Option D
  | .str a, [.lst xs] => (strsOf xs).bind fun ys => if (ys.map (·.length)).sum + ys.length * a.length ≤ 16777216 then some (.str (Txt.join a ys)) else none
  | _, _ => none
theorem m_find {ct : String → Addr} : MtR X "str.find" (rDM X.K ct gFind) := by
  intro pins s σ H x xs v us Q I rx ru h
  obtain ⟨v0, dx, ds, d, rfl, sr, e, r1, r2, h⟩ := h
  unfold gFind at e
  split at e
  · cases r1
    cases r2 with
    | cons r2 r3 =>
      cases r2; cases r3
      simp only [Option.some.injEq] at e
      subst e
      exact mt_find pins s σ _ _ _ v us Q I rx ru ⟨_, _, rfl, rfl, h _ v0 .refl sr rfl (.int _)⟩
  · exact nomatch e
theorem m_starts {ct : String → Addr} : MtR X "str.startswith" (rDM X.K ct gStarts) := by
  intro pins s σ H x xs v us Q I rx ru h
  obtain ⟨v0, dx, ds, d, rfl, sr, e, r1, r2, h⟩ := h
  unfold gStarts at e
  split at e
  · cases r1
    cases r2 with
    | cons r2 r3 =>
      cases r2; cases r3
      simp only [Option.some.injEq] at e
      subst e
      exact mt_startswith pins s σ _ _ _ v us Q I rx ru ⟨_, _, rfl, rfl, h _ v0 .refl sr rfl (.bl _)⟩
  · exact nomatch e
theorem m_part {ct : String → Addr} : MtR X "str.partition" (rDM X.K ct gPart) := by
  intro pins s σ H x xs v us Q I rx ru h
  obtain ⟨v0, dx, ds, d, rfl, sr, e, r1, r2, h⟩ := h
  unfold gPart at e
  split at e
  · cases r1
    cases r2 with
    | cons r2 r3 =>
      cases r2; cases r3
      split at e
      · rename_i hz
        simp only [Option.some.injEq] at e
        subst e
        exact mt_partition pins s σ _ _ _ v us Q I rx ru ⟨_, _, rfl, rfl, hz.1, hz.2, fun c hc => let ⟨l, s2⟩ := new_ok (o := .tup _) sr hc; h _ _ l s2 rfl (.tup (SqT.of upd_same) (.cons (.str _) (.cons (.str _) (.cons (.str _) .nil))))⟩
      · exact nomatch e
  · exact nomatch e
theorem RepL.strs {K : PySem.W.Frag} {ct : String → Addr} {G : Hp} {m : Nat → Option Addr} : ∀ ns : List Str, RepL K ct G m (ns.map D.str) (ns.map V.str)
  | [] => .nil
  | n :: r => .cons (.str n) (RepL.strs r)
theorem m_split {ct : String → Addr} : MtR X "str.split" (rDM X.K ct gSplit) := by
  intro pins s σ H x xs v us Q I rx ru h
  obtain ⟨v0, dx, ds, d, rfl, sr, e, r1, r2, h⟩ := h
  unfold gSplit at e
  split at e
  · cases r1
    cases r2 with
    | cons r2 r3 =>
      cases r2; cases r3
      split at e
      · rename_i hz
        simp only [Option.some.injEq] at e
        subst e
        exact mt_split pins s σ _ _ _ v us Q I rx ru ⟨_, _, rfl, rfl, hz.1, hz.2, fun c hc => let ⟨l, s2⟩ := new_ok (o := .lst _) sr hc; h _ _ l s2 rfl (.lst (SqL.of upd_same) (RepL.strs _))⟩
      · exact nomatch e
  · exact nomatch e
theorem m_join {ct : String → Addr} : MtR X "str.join" (rDM X.K ct gJoin) := by
  intro pins s σ H x xs v us Q I rx ru h
  obtain ⟨v0, dx, ds, d, rfl, sr, e, r1, r2, h⟩ := h
  unfold gJoin at e
  split at e
  · rename_i a ys
    cases q1 : strsOf ys with
    | none => rw [q1] at e; exact nomatch e
    | some ns =>
      rw [q1] at e
      simp only [Option.bind_some] at e
      have e2 := strsOf_eq q1
      subst e2
      split at e
      · rename_i hz
        simp only [Option.some.injEq] at e
        subst e
        cases r1
        cases r2 with
        | cons r2 r3 =>
          cases r3
          cases r2 with
          | lst p q =>
            have e3 := RepL.of_strs q
            subst e3
            exact mt_join pins s σ _ _ _ v us Q I rx ru ⟨_, _, ns, rfl, rfl, .inl (p), hz, h _ v0 .refl sr rfl (.str _)⟩
      · exact nomatch e
  · exact nomatch e
end
end Gs

/-! G5: statements, targets, loops. -/
namespace Gs
open PySem L2

inductive RS where
  | nx (δ : Sl) (s : Sto) | rt (d : D) (s : Sto) | bk (δ : Sl) (s : Sto) | ct (δ : Sl) (s : Sto) | exc (e : Ex) (δ : Sl) (s : Sto) | stk
abbrev S := Sl → Sto → RS
def onS (K : PySem.W.Frag) (C : Cc) (v : Vw) (r : RS) (Dn : Ends) : Prop := match r with
  | .nx δ s => ∀ σ' v', RE K C σ' δ v' → Le v v' → v'.st = s → Dn.nx σ' v'.H
  | .bk δ s => ∀ σ' v', RE K C σ' δ v' → Le v v' → v'.st = s → Dn.bk σ' v'.H
  | .ct δ s => ∀ σ' v', RE K C σ' δ v' → Le v v' → v'.st = s → Dn.ct σ' v'.H
  | .rt d s => ∀ x v', Le C.v0 v' → SR K C.ct v' → v'.st = s → Rep K C.ct v'.G v'.m d x → Dn.rt x v'.H
  | .exc e δ s => ∀ cls dd σ' v', RE K C σ' δ v' → Le v v' → v'.st = s → RepX K C.ct v' e cls dd → C.W cls dd σ' v'.H
  | .stk => False
def liftS (K : PySem.W.Frag) (C : Cc) (f : S) : TS := fun Dn σ H => ∃ δ v, RE K C σ δ v ∧ v.H = H ∧ onS K C v (f δ v.st) Dn
abbrev SS (X : Cx) (C : Cc) (st : Stmt) (f : S) : Prop := PS X st (liftS X.K C f)
abbrev SSs (X : Cx) (C : Cc) (st : List Stmt) (f : S) : Prop := PSs X st (liftS X.K C f)
theorem ps_weak {X : Cx} {e : Stmt} {t t' : TS} (h : PS X e t) (w : ∀ Dn σ H, t' Dn σ H → t Dn σ H) : PS X e t' := ⟨fun pins s σ H Dn I z => h.run pins s σ H Dn I (w Dn σ H z)⟩
theorem pss_weak {X : Cx} {e : List Stmt} {t t' : TS} (h : PSs X e t) (w : ∀ Dn σ H, t' Dn σ H → t Dn σ H) : PSs X e t' := ⟨fun pins s σ H Dn I z => h.run pins s σ H Dn I (w Dn σ H z)⟩
section
variable {α β : Type} {K : PySem.W.Frag} {C : Cc} {σ : L2.St} {v v' : Vw} {Dn : Ends} {rel : α → β → Vw → Prop}
theorem onS_same {r : RS} (l : Le v v') (h : onS K C v r Dn) : onS K C v' r Dn := by
  cases r with
  | nx δ s => exact fun σ' w re z => h σ' w re (l.trans z)
  | bk δ s => exact fun σ' w re z => h σ' w re (l.trans z)
  | ct δ s => exact fun σ' w re z => h σ' w re (l.trans z)
  | rt d s => exact h
  | exc e δ s => exact fun cls dd σ' w re z => h cls dd σ' w re (l.trans z)
  | stk => exact h
/-- an expression ahead of a statement's rest -/
def sBind {α : Type} (r : R α) (δ : Sl) (k : α → Sto → RS) : RS := match r with
  | .ok a s => k a s
  | .exc e s => .exc e δ s
  | .stk => .stk
theorem onX_of {δ : Sl} {e : Ex} {s : Sto} (re : RE K C σ δ v) (h : onS K C v (.exc e δ s) Dn) : onX K C σ v e s := fun cls dd v' l sr es r => h cls dd σ v' (re.step l sr) l es r
theorem onS_R {δ : Sl} {r : R α} {k : α → Sto → RS} (re : RE K C σ δ v) (h : onS K C v (sBind r δ k) Dn) : on K C σ v rel r fun a _ v1 => onS K C v1 (k a v1.st) Dn := by
  cases r with
  | ok a s =>
    intro b v1 l sr e _
    subst e
    exact onS_same l h
  | exc e s => exact onX_of re h
  | stk => exact h
end

/-! ### blocks -/
def sNx : S := fun δ s => .nx δ s
def sSeq (f g : S) : S := fun δ s => match f δ s with
  | .nx δ' s' => g δ' s'
  | r => r
section
variable {X : Cx} {C : Cc} {pos : Pos} {st : Stmt} {rest : List Stmt} {f g : S}
theorem ss_nil : SSs X C [] sNx := pss_weak pss_nil fun Dn σ H ⟨δ, v, re, eH, h⟩ => by subst eH; exact h σ v re .refl rfl
theorem ss_one (h1 : SS X C st f) : SSs X C [st] f := pss_one h1
theorem ss_cons (h1 : SS X C st f) (h2 : SSs X C rest g) : SSs X C (st :: rest) (sSeq f g) := pss_weak (pss_cons h1 h2) fun Dn σ H ⟨δ, v, re, eH, h⟩ => by
  refine ⟨δ, v, re, eH, ?_⟩
  unfold sSeq at h
  cases e : f δ v.st with
  | nx δ' s' => rw [e] at h; exact fun σ' v' re' l es => ⟨δ', v', re', rfl, by subst es; exact onS_same l h⟩
  | rt d s' => rw [e] at h; exact h
  | bk δ' s' => rw [e] at h; exact h
  | ct δ' s' => rw [e] at h; exact h
  | exc e2 δ' s' => rw [e] at h; exact h
  | stk => rw [e] at h; exact h
theorem ss_pass : SS X C (.Pass pos) sNx := ps_weak ps_pass fun Dn σ H ⟨δ, v, re, eH, h⟩ => by subst eH; exact h σ v re .refl rfl
def sBk : S := fun δ s => .bk δ s
def sCt : S := fun δ s => .ct δ s
theorem ss_break : SS X C (.Break pos) sBk := ps_weak ps_break fun Dn σ H ⟨δ, v, re, eH, h⟩ => by subst eH; exact h σ v re .refl rfl
theorem ss_cont : SS X C (.Continue pos) sCt := ps_weak ps_continue fun Dn σ H ⟨δ, v, re, eH, h⟩ => by subst eH; exact h σ v re .refl rfl
def sRet (f : E) : S := fun δ s => sBind (f δ s) δ fun d s1 => .rt d s1
theorem ss_ret {e : Expr} {f : E} (he : SE X C e f) : SS X C (.Return (some e) pos) (sRet f) := ps_weak (ps_ret he) fun Dn σ H ⟨δ, v, re, eH, h⟩ =>
  ⟨δ, v, re, eH, on_mono (onS_R re h) fun d x v1 l1 s1 r1 h1 => h1 x v1 (re.le.trans l1) s1 rfl r1⟩
def sRetN : S := fun _ s => .rt .non s
theorem ss_retN : SS X C (.Return none pos) sRetN := ps_weak ps_retN fun Dn σ H ⟨δ, v, re, eH, h⟩ => by subst eH; exact h .non v re.le re.sr rfl .non
def sIf (t : T) (a b : S) : S := fun δ s => sBind (t δ s) δ fun k s1 => if k = true then a δ s1 else b δ s1
theorem ss_if {c : Expr} {a b : List Stmt} {t : T} {fa fb : S} (hc : ST X C c t) (ha : SSs X C a fa) (hb : SSs X C b fb) : SS X C (.If c a b pos) (sIf t fa fb) := ps_weak (ps_if hc ha hb) fun Dn σ H ⟨δ, v, re, eH, h⟩ => by
  refine ⟨δ, v, re, eH, on_mono (onS_R re h) fun k k2 v1 l1 s1 e h1 => ?_⟩
  cases e
  cases k with
  | true => exact ⟨δ, v1, re.step l1 s1, rfl, h1⟩
  | false => exact ⟨δ, v1, re.step l1 s1, rfl, h1⟩
def sDrop (f : E) : S := fun δ s => sBind (f δ s) δ fun _ s1 => .nx δ s1
theorem ss_expr {e : Expr} {f : E} (he : SE X C e f) (hs : swapsWith e none pos.line X.env = pure false := by rfl) : SS X C (.Expr e pos) (sDrop f) := ps_weak (ps_expr he hs) fun Dn σ H ⟨δ, v, re, eH, h⟩ =>
  ⟨δ, v, re, eH, on_mono (onS_R re h) fun d x v1 l1 s1 r1 h1 => h1 σ v1 (re.step l1 s1) .refl rfl⟩
def sStk : S := fun _ _ => .stk
theorem ss_never : SS X C st sStk := ps_weak ps_never fun Dn σ H ⟨δ, v, re, eH, h⟩ => h
def sSet (i : Nat) (f : E) : S := fun δ s => sBind (f δ s) δ fun d s1 => .nx (δ.set i (some d)) s1
theorem ss_set (i : Nat) {x : Str} {e : Expr} {f : E} {pos' : Pos} (he : SE X C e f) (hN : X.N.Nodup) (hi : X.N[i]? = some x := by rfl) (hx : Loc X.env.scope x := by first | exact Or.inl rfl | exact Or.inr rfl) (hs : swapsWith e (some (.Name x pos')) pos.line X.env = pure false := by rfl)
    (hf : X.fn x = true ∨ X.env.scope.names.lookup x = some .local := by first | exact Or.inr rfl | exact Or.inl rfl) : SS X C (.Assign [.Name x pos'] e pos) (sSet i f) := ps_weak (ps_set hN hi hx he hs hf) fun Dn σ H ⟨δ, v, re, eH, h⟩ =>
  ⟨δ, v, re, eH, on_mono (onS_R re h) fun d x v1 l1 s1 r1 h1 => h1 (σ.set i (some x)) v1 ((re.step l1 s1).setV i r1) .refl rfl⟩
end

/-! ### targets -/
inductive Pt where
  | nm (i : Nat) | tp (ps : List Pt)
mutual
def bindP : Pt → D → Sl → Option Sl
  | .nm i, d, δ => some (δ.set i (some d))
  | .tp ps, .tup ds, δ => bindPs ps ds δ
  | .tp ps, .lst ds, δ => bindPs ps ds δ
  | _, _, _ => none
def bindPs : List Pt → List D → Sl → Option Sl
  | [], [], δ => some δ
  | p :: ps, d :: ds, δ => match bindP p d δ with
    | some δ' => bindPs ps ds δ'
    | none => none
  | _, _, _ => none
end
mutual
def idxP : Pt → List Nat
  | .nm i => [i]
  | .tp ps => idxPs ps
def idxPs : List Pt → List Nat
  | [] => []
  | p :: ps => idxP p ++ idxPs ps
end
/-- σ' differs from σ at these places alone -/
def Off (is : List Nat) (σ σ' : L2.St) : Prop := σ'.length = σ.length ∧ ∀ j, j ∉ is → σ'[j]? = σ[j]?
theorem Off.refl {is : List Nat} {σ : L2.St} : Off is σ σ := ⟨rfl, fun _ _ => rfl⟩
theorem Off.trans {is js : List Nat} {σ σ1 σ2 : L2.St} (a : Off is σ σ1) (b : Off js σ1 σ2) : Off (is ++ js) σ σ2 :=
  ⟨b.1.trans a.1, fun j hj => (b.2 j fun z => hj (List.mem_append_right _ z)).trans (a.2 j fun z => hj (List.mem_append_left _ z))⟩
def liftG (K : PySem.W.Frag) (C : Cc) (p : Pt) : TG := fun x σ H Q => ∃ d δ v δ', RE K C σ δ v ∧ v.H = H ∧ Rep K C.ct v.G v.m d x ∧ bindP p d δ = some δ' ∧ ∀ σ', RE K C σ' δ' v → Off (idxP p) σ σ' → Q σ' H
def liftGs (K : PySem.W.Frag) (C : Cc) (ps : List Pt) : TGs := fun vs σ H Q => ∃ ds δ v δ', RE K C σ δ v ∧ v.H = H ∧ RepL K C.ct v.G v.m ds vs ∧ bindPs ps ds δ = some δ' ∧ ∀ σ', RE K C σ' δ' v → Off (idxPs ps) σ σ' → Q σ' H
abbrev SG (X : Cx) (C : Cc) (e : Expr) (p : Pt) : Prop := PG X e (liftG X.K C p)
abbrev SGs (X : Cx) (C : Cc) (es : List Expr) (ps : List Pt) : Prop := PGs X es (liftGs X.K C ps)
theorem pg_weak {X : Cx} {e : Expr} {t t' : TG} (h : PG X e t) (w : ∀ v σ H Q, t' v σ H Q → t v σ H Q) : PG X e t' := ⟨fun pins s σ H v u Q I r z => h.run pins s σ H v u Q I r (w v σ H Q z)⟩
theorem pgs_weak {X : Cx} {e : List Expr} {t t' : TGs} (h : PGs X e t) (w : ∀ v σ H Q, t' v σ H Q → t v σ H Q) : PGs X e t' := ⟨fun pins s σ H v u Q I r z => h.run pins s σ H v u Q I r (w v σ H Q z)⟩
theorem bindPs_len : ∀ {ps : List Pt} {ds : List D} {δ δ' : Sl}, bindPs ps ds δ = some δ' → ds.length = ps.length := by
  intro ps
  induction ps with
  | nil => intro ds δ δ' e; cases ds with
    | nil => rfl
    | cons a b => simp [bindPs] at e
  | cons p ps ih => intro ds δ δ' e; cases ds with
    | nil => simp [bindPs] at e
    | cons a b =>
      simp only [bindPs] at e
      cases q : bindP p a δ with
      | none => rw [q] at e; exact nomatch e
      | some δ1 => rw [q] at e; simp [ih e]
section
variable {X : Cx} {C : Cc} {pos : Pos}
theorem sg_name (i : Nat) {x : Str} (hN : X.N.Nodup) (hi : X.N[i]? = some x := by rfl) (hx : Loc X.env.scope x := by first | exact Or.inl rfl | exact Or.inr rfl) (hf : X.fn x = true ∨ X.env.scope.names.lookup x = some .local := by first | exact Or.inr rfl | exact Or.inl rfl) : SG X C (.Name x pos) (.nm i) :=
  pg_weak (pg_name hN hi hx hf) fun v σ H Q ⟨d, δ, w, δ', re, eH, r, e, h⟩ => by
    simp only [bindP, Option.some.injEq] at e
    subst e
    refine h _ (re.setV i r) ⟨by simp, fun j hj => ?_⟩
    rw [List.getElem?_set_ne]
    intro z
    exact hj (by simp [idxP, z])
theorem sgs_nil : SGs X C [] [] := pgs_weak pgs_nil fun v σ H Q ⟨ds, δ, w, δ', re, eH, r, e, h⟩ => by
  cases r with
  | nil =>
    simp only [bindPs, Option.some.injEq] at e
    subst e
    exact ⟨rfl, h σ re Off.refl⟩
  | cons a b => simp [bindPs] at e
theorem sgs_cons {e : Expr} {es : List Expr} {p : Pt} {ps : List Pt} (h1 : SG X C e p) (h2 : SGs X C es ps) (hs : (assignEach (e :: es) X.env).map (·.2) = assign e X.env :: (assignEach es X.env).map (·.2) := by rfl) : SGs X C (e :: es) (p :: ps) :=
  pgs_weak (pgs_cons h1 h2 hs) fun v σ H Q ⟨ds, δ, w, δ', re, eH, r, e, h⟩ => by
    cases r with
    | nil => simp [bindPs] at e
    | @cons _ _ d9 v0 ds0 vs0 a b =>
      simp only [bindPs] at e
      cases q : bindP p d9 δ with
      | none => rw [q] at e; exact nomatch e
      | some δ1 =>
        rw [q] at e
        exact ⟨v0, vs0, rfl, d9, δ, w, δ1, re, eH, a, q, fun σ1 re1 o1 => ⟨ds0, δ1, w, δ', re1, eH, b, e, fun σ2 re2 o2 => h σ2 re2 (o1.trans o2)⟩⟩
theorem sg_tup {es : List Expr} {k : Nat} {ps : List Pt} (hc : X.calm = true) (h : SGs X C es ps) (hl : es.length = ps.length := by rfl) (hn : (assignEach es X.env).length = es.length := by rfl) (hst : (assignEach es X.env).findIdx? (·.1) = none := by rfl) :
    SG X C (.Tuple es k pos) (.tp ps) := by
  refine ⟨fun pins s σ H v u Q I rv ⟨d, δ, w, δ', re, eH, r, e, z⟩ => ?_⟩
  subst eH
  cases r with
  | @tup _ _ a vs ds p q =>
    simp only [bindP] at e
    have l1 := bindPs_len e
    have l2 := q.length
    exact (pg_tup hc h hn hst).run pins s σ _ _ u Q I rv ⟨a, vs, rfl, sqt_mono re.sr.sub p, by omega, ds, δ, w, δ', re, rfl, q, e, fun σ' re' o => z σ' re' o⟩
  | @lst _ _ a vs ds p q =>
    simp only [bindP] at e
    have l1 := bindPs_len e
    have l2 := q.length
    exact (pg_lst hc h hn hst).run pins s σ _ _ u Q I rv ⟨a, vs, rfl, re.sr.sub.seq p, by omega, ds, δ, w, δ', re, rfl, q, e, fun σ' re' o => z σ' re' o⟩
  | non => simp [bindP] at e
  | bl b => simp [bindP] at e
  | int b => simp [bindP] at e
  | str b => simp [bindP] at e
  | fn b => simp [bindP] at e
  | ob b => simp [bindP] at e
  | ev0 b => simp [bindP] at e
  | ev n a b c d => simp [bindP] at e
  | clo a b c d f => simp [bindP] at e
  | dct p l q => simp [bindP] at e
def sBindP (p : Pt) (d : D) (δ : Sl) (s : Sto) : RS := match bindP p d δ with
  | some δ' => .nx δ' s
  | none => .stk
def sAsg (p : Pt) (f : E) : S := fun δ s => sBind (f δ s) δ fun d s1 => sBindP p d δ s1
theorem ss_asg {tg e : Expr} {p : Pt} {f : E} (he : SE X C e f) (hg : SG X C tg p) (hs : swapsWithSole [tg] e pos.line X.env = pure false := by rfl) (hw : swappedStores [tg] e X.env = pure none := by rfl)
    (h1 : (assignEach [tg] X.env).map (·.2) = [assign tg X.env] := by rfl) : SS X C (.Assign [tg] e pos) (sAsg p f) := ps_weak (ps_asg he hg hs hw h1) fun Dn σ H ⟨δ, v, re, eH, h⟩ =>
  ⟨δ, v, re, eH, on_mono (onS_R re h) fun d0 x v1 l1 s1 r1 h1 => by
    unfold sBindP at h1
    cases q : bindP p d0 δ with
    | none => rw [q] at h1; exact h1.elim
    | some δ' => rw [q] at h1; exact ⟨d0, δ, v1, δ', re.step l1 s1, rfl, r1, q, fun σ' re' _ => h1 σ' v1 re' .refl rfl⟩⟩
/-- x op= e -/
def sAug (i : Nat) (g : B2) (f : E) : S := fun δ s => match δ[i]? with
  | some (some x) => sBind (f δ s) δ fun y s1 => match g (rsv s1 x) (rsv s1 y) with
    | some z => .nx (δ.set i (some z)) s1
    | none => .stk
  | _ => .stk
theorem ss_aug (i : Nat) {x : Str} {e : Expr} {f : E} {op : Operator} {g : B2} {pos' : Pos} (ho : OpR X (inplaceOp op) (rD X.K C.ct g)) (he : SE X C e f) (hN : X.N.Nodup) (hi : X.N[i]? = some x := by rfl) (hx : Loc X.env.scope x := by first | exact Or.inl rfl | exact Or.inr rfl)
    (hf : X.fn x = true ∨ X.env.scope.names.lookup x = some .local := by first | exact Or.inr rfl | exact Or.inl rfl) : SS X C (.AugAssign (.Name x pos') op e pos) (sAug i g f) :=
  ps_weak (ps_aug hN hi hx he ho hf) fun Dn σ H ⟨δ, v, re, eH, h⟩ => by
    unfold sAug at h
    split at h
    · rename_i d0 q
      obtain ⟨v0, e0, r0⟩ := re.sl i d0 q
      refine ⟨v0, e0, δ, v, re, eH, on_mono (onS_R re h) fun d x v1 l1 s1 r1 h1 => ?_⟩
      split at h1
      · rename_i w z
        exact ⟨v1, _, _, w, rfl, s1, z, (l1.rep r0).top s1, r1.top s1, fun x2 v2 l2 s2 e2 r2 => h1 _ v2 (((re.step l1 s1).step l2 s2).setV i r2) l2 e2⟩
      · exact h1.elim
    · exact h.elim
def gAddI : B2
  | .int i, .int j => some (.int (i + j))
  | .str x, .str y => if x.length + y.length ≤ sizeLine then some (.str (x ++ y)) else none
  | _, _ => none
theorem io_addI {ct : String → Addr} : OpR X (inplaceOp .Add) (rD X.K ct gAddI) := by
  intro pins s σ H x y v u Q I rx ry h
  obtain ⟨v0, dx, dy, d, rfl, sr, e, r1, r2, h⟩ := h
  cases r1 <;> cases r2 <;> simp only [gAddI, Option.some.injEq, reduceCtorEq] at e
  · subst e
    exact iop_add pins s σ _ _ _ v u Q I rx ry ⟨_, _, rfl, rfl, h _ v0 .refl sr rfl (.int _)⟩
  · split at e
    · rename_i hz
      simp only [Option.some.injEq] at e
      subst e
      exact iop_add_str pins s σ _ _ _ v u Q I rx ry ⟨_, _, rfl, rfl, hz, h _ v0 .refl sr rfl (.str _)⟩
    · exact nomatch e
theorem io_sub {ct : String → Addr} : OpR X (inplaceOp .Sub) (rD X.K ct gSub) := by
  intro pins s σ H x y v u Q I rx ry h
  obtain ⟨v0, dx, dy, d, rfl, sr, e, r1, r2, h⟩ := h
  cases r1 <;> cases r2 <;> simp only [gSub, Option.some.injEq, reduceCtorEq] at e
  subst e
  exact iop_sub pins s σ _ _ _ v u Q I rx ry ⟨_, _, rfl, rfl, h _ v0 .refl sr rfl (.int _)⟩
end

/-! ### for -/
structure ItOk (K : PySem.W.Frag) (ct : String → Addr) (J : It) (v : Vw) (items : List D) : Prop where
  go : ∀ i w, Le v w → SR K ct w → i < items.length → J.go i w.H
  stop : ∀ i w, Le v w → SR K ct w → items.length ≤ i → J.stop i w.H
  yld : ∀ i w x H', Le v w → SR K ct w → i < items.length → J.yld i w.H x H' → ∃ d w2, items[i]? = some d ∧ w2.H = H' ∧ Le w w2 ∧ SR K ct w2 ∧ w2.st = w.st ∧ Rep K ct w2.G w2.m d x
abbrev rI (K : PySem.W.Frag) (ct : String → Addr) : List D → It → Vw → Prop := fun items J v => ItOk K ct J v items
def liftI (K : PySem.W.Frag) (C : Cc) (f : As) : TI := fun σ H P => ∃ δ v, RE K C σ δ v ∧ v.H = H ∧ on K C σ v (rI K C.ct) (f δ v.st) fun _ J v' => P J v'.H
abbrev SI (X : Cx) (C : Cc) (tg e : Expr) (f : As) : Prop := PI X tg e (liftI X.K C f)
theorem pi_weak {X : Cx} {tg e : Expr} {t t' : TI} (h : PI X tg e t) (w : ∀ σ H Q, t' σ H Q → t σ H Q) : PI X tg e t' := ⟨fun pins s σ H Q I z => h.run pins s σ H Q I (w σ H Q z)⟩
def forD (p : Pt) (body : S) : List D → Sl → Sto → RS
  | [], δ, s => .nx δ s
  | d :: ds, δ, s => match bindP p d δ with
    | none => .stk
    | some δ1 => match body δ1 s with
      | .nx δ2 s2 => forD p body ds δ2 s2
      | .ct δ2 s2 => forD p body ds δ2 s2
      | .bk δ2 s2 => .nx δ2 s2
      | r => r
def sFor (it : As) (p : Pt) (body : S) : S := fun δ s => sBind (it δ s) δ fun items s1 => forD p body items δ s1
section
variable {X : Cx} {C : Cc} {pos : Pos} {tg iter : Expr}
theorem ss_for {body : List Stmt} {f : As} {p : Pt} {fb : S} (hp : PassesOwn (model X.prog X.w) X.A X.env X.xe) (hc : X.calm = true) (hi : SI X C tg iter f) (hg : SG X C tg p) (hb : SSs X C body fb)
    (hs : ∀ x, foldedSetIterable iter X.env x = pure x := by intro _; rfl) : SS X C (.For tg iter body [] pos) (sFor f p fb) := ps_weak (ps_for hp hc hi hg hb hs) fun Dn σ H ⟨δ, v, re, eH, h⟩ => by
  refine ⟨δ, v, re, eH, on_mono (onS_R re h) fun items J v1 l1 s1 ok h0 => ?_⟩
  refine ⟨fun i m σ H => m = items.length - i ∧ i ≤ items.length ∧ ∃ δ w, RE X.K C σ δ w ∧ w.H = H ∧ Le v1 w ∧ onS X.K C w (forD p fb (items.drop i) δ w.st) Dn, ⟨items.length, by simp, Nat.zero_le _, δ, v1, re.step l1 s1, rfl, .refl, h0⟩, ?_⟩
  rintro i m σ2 H2 ⟨rfl, hi, δ2, w, re2, rfl, lw, q⟩
  by_cases hlt : i < items.length
  · refine .inr ⟨ok.go i w lw re2.sr hlt, fun σ H => ∃ δ w, RE X.K C σ δ w ∧ w.H = H ∧ Le v1 w ∧ onS X.K C w (forD p fb (items.drop (i + 1)) δ w.st) Dn, fun σ' H' n => ⟨items.length - (i + 1), by omega, rfl, hlt, n⟩, fun x H' y => ?_⟩
    obtain ⟨d, w3, ed, rfl, l3, s3, e3, r3⟩ := ok.yld i w x H' lw re2.sr hlt y
    have ed2 : items.drop i = d :: items.drop (i + 1) := by
      rw [List.drop_eq_getElem_cons hlt]
      rw [List.getElem?_eq_getElem hlt] at ed
      rw [Option.some.inj ed]
    rw [ed2] at q
    simp only [forD] at q
    cases eb : bindP p d δ2 with
    | none => rw [eb] at q; exact q.elim
    | some δ3 =>
      rw [eb] at q
      refine ⟨d, δ2, w3, δ3, re2.step l3 s3, rfl, r3, eb, fun σ4 re4 _ => ⟨δ3, w3, re4, rfl, ?_⟩⟩
      simp only at q
      rw [e3]
      cases ef : fb δ3 w.st with
      | nx δ4 s4 => rw [ef] at q; exact fun σ' w' re' l' es => ⟨δ4, w', re', rfl, (lw.trans l3).trans l', by subst es; exact onS_same (l3.trans l') q⟩
      | ct δ4 s4 => rw [ef] at q; exact fun σ' w' re' l' es => ⟨δ4, w', re', rfl, (lw.trans l3).trans l', by subst es; exact onS_same (l3.trans l') q⟩
      | bk δ4 s4 => rw [ef] at q; exact fun σ' w' re' l' es => q σ' w' re' (l3.trans l') es
      | rt d s4 => rw [ef] at q; exact q
      | exc e4 δ4 s4 => rw [ef] at q; exact fun cls dd σ' w' re' l' es rx => q cls dd σ' w' re' (l3.trans l') es rx
      | stk => rw [ef] at q; exact q
  · have ei : i = items.length := by omega
    subst ei
    rw [List.drop_length] at q
    exact .inl ⟨ok.stop _ w lw re2.sr (Nat.le_refl _), q σ2 w re2 .refl rfl⟩

/-! ### what is walked -/
theorem itOk_list {K : PySem.W.Frag} {ct : String → Addr} {v : Vw} {a : Addr} {vs : List V} {ds : List D} (h : SqL K v.G a vs) (r : RepL K ct v.G v.m ds vs) : ItOk K ct (Itl K a) v ds where
  go := fun i w l s hi => by
    obtain ⟨x, e, _⟩ := r.get (List.getElem?_eq_getElem hi)
    exact ⟨vs, x, s.sub.seq (l.g.seq h), e⟩
  stop := fun i w l s hi => ⟨vs, s.sub.seq (l.g.seq h), by rw [← r.length]; exact hi⟩
  yld := fun i w x H' l s hi y => by
    obtain ⟨x', e, rv⟩ := r.get (List.getElem?_eq_getElem hi)
    obtain ⟨rfl, y2⟩ := y
    have z := y2 vs (s.sub.seq (l.g.seq h))
    rw [e] at z
    cases z
    exact ⟨_, w, List.getElem?_eq_getElem hi, rfl, .refl, s, rfl, l.rep rv⟩
theorem itOk_tup {K : PySem.W.Frag} {ct : String → Addr} {v : Vw} {a : Addr} {vs : List V} {ds : List D} (h : SqT K v.G a vs) (r : RepL K ct v.G v.m ds vs) : ItOk K ct (Itt K a) v ds where
  go := fun i w l s hi => by
    obtain ⟨x, e, _⟩ := r.get (List.getElem?_eq_getElem hi)
    exact ⟨vs, x, sqt_mono s.sub (sqt_mono l.g h), e⟩
  stop := fun i w l s hi => ⟨vs, sqt_mono s.sub (sqt_mono l.g h), by rw [← r.length]; exact hi⟩
  yld := fun i w x H' l s hi y => by
    obtain ⟨x', e, rv⟩ := r.get (List.getElem?_eq_getElem hi)
    obtain ⟨rfl, y2⟩ := y
    have z := y2 vs (sqt_mono s.sub (sqt_mono l.g h))
    rw [e] at z
    cases z
    exact ⟨_, w, List.getElem?_eq_getElem hi, rfl, .refl, s, rfl, l.rep rv⟩
theorem itOk_str {K : PySem.W.Frag} {ct : String → Addr} {v : Vw} {x : Str} : ItOk K ct (Its x) v (signs x) where
  go := fun i w l s hi => by show i < x.cps.size; simpa [signs] using hi
  stop := fun i w l s hi => by show x.cps.size ≤ i; simpa [signs] using hi
  yld := fun i w z H' l s hi y => by
    obtain ⟨rfl, c, e, rfl⟩ := y
    refine ⟨.str ⟨#[c]⟩, w, ?_, rfl, .refl, s, rfl, .str _⟩
    simp [signs, e]
/-- the things of a list (frozen), a tuple, a text -/
def seqOf : D → Option (List D)
  | .lst xs => some xs
  | .tup xs => some xs
  | .str x => some (signs x)
  | _ => none
def iSeq (f : E) : As := fun δ s => (f δ s).bind fun d s1 => R.ofO (seqOf d) s1
theorem si_seq {e : Expr} {f : E} (he : SE X C e f) : SI X C tg e (iSeq f) := by
  refine ⟨fun pins s σ H Rr I ⟨δ, v, re, eH, h⟩ => ?_⟩
  unfold iSeq at h
  have hz := on_bind (rel := rE X.K C.ct) h
  cases q : f δ v.st with
  | stk => rw [q] at hz; exact hz.elim
  | exc e s1 => exact (pi_list he).run pins s σ H Rr I ⟨δ, v, re, eH, by rw [q] at hz ⊢; exact hz⟩
  | ok d s1 =>
    rw [q] at hz
    have go : ∀ (P : V → Vw → Prop), (∀ x v1, Le v v1 → SR X.K C.ct v1 → v1.st = s1 → Rep X.K C.ct v1.G v1.m d x → P x v1) → on X.K C σ v (rE X.K C.ct) (f δ v.st) fun _ x v' => P x v' := fun P w => by rw [q]; exact w
    cases d with
    | lst xs =>
      refine (pi_list he).run pins s σ H Rr I ⟨δ, v, re, eH, go _ fun x v1 l1 sr1 es r1 => ?_⟩
      have h9 := hz x v1 l1 sr1 es r1
      cases r1 with
      | @lst _ _ a vs _ p rl => exact ⟨a, rfl, ⟨vs, sr1.sub.seq p⟩, on_self sr1 h9 (itOk_list p rl)⟩
    | tup xs =>
      refine (pi_tup he).run pins s σ H Rr I ⟨δ, v, re, eH, go _ fun x v1 l1 sr1 es r1 => ?_⟩
      have h9 := hz x v1 l1 sr1 es r1
      cases r1 with
      | @tup _ _ a vs _ p rl => exact ⟨a, rfl, ⟨vs, sqt_mono sr1.sub p⟩, on_self sr1 h9 (itOk_tup p rl)⟩
    | str z =>
      refine (pi_str he).run pins s σ H Rr I ⟨δ, v, re, eH, go _ fun x v1 l1 sr1 es r1 => ?_⟩
      have h9 := hz x v1 l1 sr1 es r1
      cases r1
      exact ⟨z, rfl, on_self sr1 h9 itOk_str⟩
    | _ => exact (pi_list he).run pins s σ H Rr I ⟨δ, v, re, eH, go _ fun x v1 l1 sr1 es r1 => (hz x v1 l1 sr1 es r1).elim⟩
/-- the whole numbers lo, lo + 1, .. -/
def rngD (lo : Int) (n : Nat) : List D := (List.range n).map fun (i : Nat) => .int (lo + (i : Int))
theorem ints_get {lo : Int} {n i : Nat} (h : i < n) : (rngD lo n)[i]? = some (.int (lo + (i : Int))) := by simp [rngD, h]
theorem itOk_rng {K : PySem.W.Frag} {ct : String → Addr} {v : Vw} {lo : Int} {n : Nat} : ItOk K ct (Itr lo n) v (rngD lo n) where
  go := fun i w l s hi => by show i < n; simpa [rngD] using hi
  stop := fun i w l s hi => by show n ≤ i; simpa [rngD] using hi
  yld := fun i w z H' l s hi y => by
    obtain ⟨rfl, rfl⟩ := y
    exact ⟨_, w, ints_get (by simpa [rngD] using hi), rfl, .refl, s, rfl, .int _⟩
def iRange1 (a : As) : As := fun δ s => (a δ s).bind fun ds s1 => match ds with
  | [.int j] => if -(2 ^ 62) ≤ j ∧ j < 2 ^ 62 then .ok (rngD 0 j.toNat) s1 else .stk
  | _ => .stk
def iRange2 (a : As) : As := fun δ s => (a δ s).bind fun ds s1 => match ds with
  | [.int i, .int j] => if -(2 ^ 62) ≤ i ∧ i < 2 ^ 62 ∧ -(2 ^ 62) ≤ j ∧ j < 2 ^ 62 then .ok (rngD i (j - i).toNat) s1 else .stk
  | _ => .stk
theorem si_range1 {a : Expr} {f : As} {p pos : Pos} (hg : Gl X "range") (hm : X.mg "range" = none) (ha : SA X C [a] f) (hs : starEach [a] X.env = [(false, eval a X.env)] := by rfl) : SI X C tg (.Call (.Name "range" p) [a] [] pos) (iRange1 f) :=
  pi_weak (pi_range1 hg hm ha hs) fun σ H P ⟨δ, v, re, eH, h⟩ => ⟨δ, v, re, eH, on_mono (on_bind h) fun ds vs v1 l1 s1 r1 h1 => by
    split at h1
    · rename_i j
      cases r1 with
      | cons r2 r3 =>
        cases r2; cases r3
        split at h1
        · rename_i hz
          exact ⟨j, rfl, hz.1, hz.2, on_self s1 h1 itOk_rng⟩
        · exact h1.elim
    · exact h1.elim⟩
theorem si_range2 {a b : Expr} {f : As} {p pos : Pos} (hg : Gl X "range") (hm : X.mg "range" = none) (ha : SA X C [a, b] f) (hs : starEach [a, b] X.env = [(false, eval a X.env), (false, eval b X.env)] := by rfl) (hs2 : starEach [b] X.env = [(false, eval b X.env)] := by rfl) :
    SI X C tg (.Call (.Name "range" p) [a, b] [] pos) (iRange2 f) :=
  pi_weak (pi_range2 hg hm ha hs hs2) fun σ H P ⟨δ, v, re, eH, h⟩ => ⟨δ, v, re, eH, on_mono (on_bind h) fun ds vs v1 l1 s1 r1 h1 => by
    split at h1
    · rename_i i j
      cases r1 with
      | cons r2 r3 =>
        cases r3 with
        | cons r3 r4 =>
          cases r2; cases r3; cases r4
          split at h1
          · rename_i hz
            exact ⟨i, j, rfl, hz, on_self s1 h1 itOk_rng⟩
          · exact h1.elim
    · exact h1.elim⟩
end

/-! ### while -/
def whileD (c : T) (body : S) : Nat → Sl → Sto → RS
  | 0, _, _ => .stk
  | n + 1, δ, s => match c δ s with
    | .ok true s1 => match body δ s1 with
      | .nx δ2 s2 => whileD c body n δ2 s2
      | .ct δ2 s2 => whileD c body n δ2 s2
      | .bk δ2 s2 => .nx δ2 s2
      | r => r
    | .ok false s1 => .nx δ s1
    | .exc e s1 => .exc e δ s1
    | .stk => .stk
section
variable {X : Cx} {C : Cc} {pos : Pos}
theorem ss_while (n : Nat) {c : Expr} {body : List Stmt} {t : T} {fb : S} (hp : PassesOwn (model X.prog X.w) X.A X.env X.xe) (hc : ST X C c t) (hb : SSs X C body fb) : SS X C (.While c body [] pos) (whileD t fb n) :=
  ps_weak (ps_while hp hc hb) fun Dn σ H ⟨δ, v, re, eH, h⟩ => by
    refine ⟨fun m σ H => ∃ δ v, RE X.K C σ δ v ∧ v.H = H ∧ onS X.K C v (whileD t fb m δ v.st) Dn, ⟨n, δ, v, re, eH, h⟩, ?_⟩
    rintro m σ2 H2 ⟨δ2, w, re2, rfl, q⟩
    cases m with
    | zero => exact q.elim
    | succ m =>
      simp only [whileD] at q
      refine ⟨δ2, w, re2, rfl, ?_⟩
      cases e : t δ2 w.st with
      | stk => rw [e] at q; exact q.elim
      | exc ex s1 => rw [e] at q; exact onX_of re2 q
      | ok b s1 =>
        rw [e] at q
        intro b2 w3 l3 s3 es eb
        cases eb
        cases b with
        | false =>
          rw [if_neg Bool.false_ne_true]
          exact q σ2 w3 (re2.step l3 s3) l3 es
        | true =>
          rw [if_pos rfl]
          refine ⟨fun σ H => ∃ δ v, RE X.K C σ δ v ∧ v.H = H ∧ onS X.K C v (whileD t fb m δ v.st) Dn, fun σ' H' z => ⟨m, Nat.lt_succ_self _, z⟩, δ2, w3, re2.step l3 s3, rfl, ?_⟩
          simp only at q
          subst es
          cases ef : fb δ2 w3.st with
          | nx δ4 s4 => rw [ef] at q; exact fun σ' w' re' l' es => ⟨δ4, w', re', rfl, by subst es; exact onS_same (l3.trans l') q⟩
          | ct δ4 s4 => rw [ef] at q; exact fun σ' w' re' l' es => ⟨δ4, w', re', rfl, by subst es; exact onS_same (l3.trans l') q⟩
          | bk δ4 s4 => rw [ef] at q; exact fun σ' w' re' l' es => q σ' w' re' (l3.trans l') es
          | rt d s4 => rw [ef] at q; exact q
          | exc e4 δ4 s4 => rw [ef] at q; exact fun cls dd σ' w' re' l' es rx => q cls dd σ' w' re' (l3.trans l') es rx
          | stk => rw [ef] at q; exact q
end
end Gs

/-! G6: defs by their function over data and store, calls, new lists, comprehensions, methods of lists. -/
namespace Gs
open PySem L2

/-- a def's promise: what its function says of the arguments' data and the store -/
def spG (K : PySem.W.Frag) (ct : String → Addr) (n : Nat) (F : List D → Sto → R D) : Sp := fun vs H Q E => ∃ v ds, v.H = H ∧ SR K ct v ∧ ds.length = n ∧ RepL K ct v.G v.m ds vs ∧ match F ds v.st with
  | .ok d s => ∀ x v', Le v v' → SR K ct v' → v'.st = s → Rep K ct v'.G v'.m d x → Q x v'.H
  | .exc e s => ∀ cls dd v', Le v v' → SR K ct v' → v'.st = s → RepX K ct v' e cls dd → E cls dd v'.H
  | .stk => False
/-- a body as a function of the arguments: N names -/
def runG (N : Nat) (body : S) (ds : List D) (s : Sto) : R D := match body (ds.map some ++ List.replicate (N - ds.length) none) s with
  | .nx _ s' => .ok .non s'
  | .rt d s' => .ok d s'
  | .exc e _ s' => .exc e s'
  | _ => .stk
theorem re_start {K : PySem.W.Frag} {C : Cc} {v : Vw} {ds : List D} {vs : List V} {N : List Str} (l : Le C.v0 v) (sr : SR K C.ct v) (r : RepL K C.ct v.G v.m ds vs) (hn : ds.length ≤ N.length) : RE K C (L2.start N vs) (ds.map some ++ List.replicate (N.length - ds.length) none) v := by
  have hl := r.length
  refine ⟨l, sr, by simp [L2.start]; omega, fun i d hs => ?_⟩
  unfold L2.start
  by_cases h : i < ds.length
  · rw [List.getElem?_append_left (by simpa using h)] at hs
    rw [List.getElem?_append_left (by simp; omega)]
    obtain ⟨x, e1, r1⟩ := r.get (List.getElem?_eq_getElem h)
    rw [List.getElem?_map, List.getElem?_eq_getElem h] at hs
    rw [List.getElem?_map, e1]
    cases hs
    exact ⟨x, rfl, r1⟩
  · rw [List.getElem?_append_right (by simpa using h)] at hs
    rw [List.getElem?_replicate] at hs
    split at hs
    · cases hs
    · exact nomatch hs
section
variable {P : Program} {w : World} {K : PySem.W.Frag} {mg : Str → Option Value} {base : Heap} {ct : String → Addr}
/-- a def of the text keeps the promise of its body's function -/
theorem fn_ok {x qual : Str} {st : Stmt} {f : Addr} {fd : FuncData} {N ps : List Str} {k : Nat} {body : S} (F : L2.Fun K x qual st f fd) (sc : FnScope N ps (defScope st)) (hn : ps.length ≤ N.length)
    (hb : ∀ (cdv : Value) (A : Around) (outer : List Env) (s : Shared) (H : Hp) (v : Vw) (E : XK), Room k (A.deeper (PyProof.Rows.envOfC qual (defScope st) s.heap.objs.size f cdv)) →
      SSs (cxOf (L2.CX P w) P w K mg base N qual (defScope st) f cdv A outer s H E) ⟨v, ct, fun cls d _ H => E cls d H⟩ (defBody st) body) :
    FnOk P w K mg base (L2.CX P w) (k + 1) f fd ps (spG K ct ps.length (runG N.length body)) := by
  refine F.okX sc (fun vs H Q E ⟨v, ds, e, sr, l, r, _⟩ => by rw [← l, r.length]) (fun cdv A outer s H vs Q E hr ⟨v, ds, e, sr, l, r, h⟩ => ⟨_, hb cdv A outer s H v E hr, ?_⟩)
  subst e
  have rs : RE K ⟨v, ct, fun cls d _ H => E cls d H⟩ (L2.start N vs) (ds.map some ++ List.replicate (N.length - ds.length) none) v := re_start .refl sr r (by omega)
  refine ⟨_, v, rs, rfl, ?_⟩
  unfold runG at h
  cases e : body (ds.map some ++ List.replicate (N.length - ds.length) none) v.st with
  | nx δ s => rw [e] at h; exact fun σ' v' re l es => h .non v' l re.sr es .non
  | rt d s => rw [e] at h; exact fun x v' l sr' es r => h x v' l sr' es r
  | exc e2 δ s => rw [e] at h; exact fun cls dd σ' v' re l es rx => h cls dd v' l re.sr es rx
  | bk δ s => rw [e] at h; exact h.elim
  | ct δ s => rw [e] at h; exact h.elim
  | stk => rw [e] at h; exact h.elim
theorem fn_zero {f : Addr} {fd : FuncData} {ps : List Str} : FnOk P w K mg base (L2.CX P w) 0 f fd ps (spG K ct ps.length fun _ _ => .stk) :=
  ⟨fun vs H Q E ⟨v, ds, e, sr, l, r, h⟩ => h.elim, fun A outer s H args us vs Q E _ _ _ _ ⟨v, ds, e, sr, l, r, h⟩ => h.elim⟩
end

/-! ### calls -/
def eCall (F : List D → Sto → R D) (a : As) : E := fun δ s => (a δ s).bind F
/-- an argument list gives as many as it has -/
def LenA (fa : As) (n : Nat) : Prop := ∀ δ s ds s', fa δ s = .ok ds s' → ds.length = n
theorem lenA_nil : LenA aNil 0 := fun δ s ds s' h => by cases h; rfl
theorem lenA_cons {f : E} {r : As} {n : Nat} (h : LenA r n) : LenA (aCons f r) (n + 1) := fun δ s ds s' e => by
  unfold aCons at e
  cases q : f δ s with
  | stk => rw [q] at e; exact nomatch e
  | exc e2 s2 => rw [q] at e; exact nomatch e
  | ok d s2 =>
    rw [q] at e
    cases q2 : r δ s2 with
    | stk => simp only [R.bind, q2] at e; exact nomatch e
    | exc e2 s3 => simp only [R.bind, q2] at e; exact nomatch e
    | ok xs s3 =>
      simp only [R.bind, q2, R.ok.injEq] at e
      rw [← e.1]
      simp [h δ s2 xs s3 q2]
theorem on_eq {α β : Type} {K : PySem.W.Frag} {C : Cc} {σ : L2.St} {v : Vw} {rel : α → β → Vw → Prop} {r : R α} {P : α → β → Vw → Prop} (h : on K C σ v rel r P) : on K C σ v rel r fun a b v' => P a b v' ∧ ∃ s, r = .ok a s := by
  cases r with
  | ok a s => exact fun b v' l sr e q => ⟨h b v' l sr e q, s, rfl⟩
  | exc e s => exact h
  | stk => exact h
section
variable {X : Cx} {C : Cc} {pos p : Pos} {x : Str} {e : Expr} {es : List Expr} {fa : As} {k n : Nat} {f : Addr} {fd : FuncData} {ps : List Str} {F : List D → Sto → R D}
theorem on_sp {K : PySem.W.Frag} {σ : L2.St} {v : Vw} {ds : List D} {vs : List V} {Q : VK} (sr : SR K C.ct v) (hl : ds.length = n) (r : RepL K C.ct v.G v.m ds vs) (h : on K C σ v (rE K C.ct) (F ds v.st) fun _ x v' => Q x v'.H) : spG K C.ct n F vs v.H Q (WE C.W σ) := by
  refine ⟨v, ds, rfl, sr, hl, r, ?_⟩
  cases q : F ds v.st with
  | ok d s => rw [q] at h; exact h
  | exc e s => rw [q] at h; exact h
  | stk => rw [q] at h; exact h
theorem se_call (hF : FnOk X.prog X.w X.K X.mg X.base (L2.CX X.prog X.w) k f fd ps (spG X.K C.ct n F)) (hr : Room k X.A) (tk : Takes X C.W) (hg : Gl X x) (hm : X.mg x = some (.ref f)) (hk : PySem.W.keepIn X.K (.ref f) = true) (hb : Binds X.K fd ps [])
    (ha : SA X C (e :: es) fa) (hl : LenA fa n) (hdb : (x == ("__debug__" : Str)) = false := by decide) (he : starEach (e :: es) X.env = (false, eval e X.env) :: starEach es X.env := by rfl) (hpl : (backTo pos (starEach es X.env)).any (·.1) = false := by rfl) :
    SE X C (.Call (.Name x p) (e :: es) [] pos) (eCall F fa) :=
  pe_weak (pe_callS hF hr hg hm hk hb (fun σ => passAt tk σ) ha hdb he hpl) fun σ H Q ⟨δ, v, re, eH, h⟩ => ⟨δ, v, re, eH, on_mono (on_eq (on_bind h)) fun ds vs v1 l1 s1 r1 h1 => by
    obtain ⟨h1, s, q⟩ := h1
    exact on_sp s1 (hl _ _ _ _ q) r1 h1⟩
end

/-! ### new lists -/
def onF (K : PySem.W.Frag) (C : Cc) (σ : L2.St) (v : Vw) (r : R (List D)) (P : List D → Addr → Vw → Prop) : Prop := match r with
  | .ok xs s => ∀ p vs v', Le v v' → SR K C.ct v' → v'.st = s → v.H p = none → v'.G p = none → v'.H p = some (.lst vs) → ¬ v'.owns p → RepL K C.ct v'.G v'.m xs vs → P xs p v'
  | .exc e s => onX K C σ v e s
  | .stk => False
abbrev Fr := Sl → Sto → R (List D)
def liftF (K : PySem.W.Frag) (C : Cc) (f : Fr) : TE := fun σ H Q => ∃ δ v, RE K C σ δ v ∧ v.H = H ∧ onF K C σ v (f δ v.st) fun _ p v' => Q (.ref p) v'.H
abbrev SF (X : Cx) (C : Cc) (e : Expr) (f : Fr) : Prop := PE X e (liftF X.K C f)
/-- a new list, frozen; a thing of the store -/
def eFz (f : Fr) : E := fun δ s => (f δ s).bind fun xs s1 => .ok (.lst xs) s1
def eNw (f : Fr) : E := fun δ s => (f δ s).bind fun xs s1 => .ok (.ob s1.length) (s1 ++ [.lst xs])
section
variable {K : PySem.W.Frag} {ct : String → Addr}
theorem owns_same {G G' H H' : Hp} {m : Nat → Option Addr} {st : Sto} {b : Addr} (hh : ∀ (i : Nat) (o : O) (a : Addr), st[i]? = some o → o.live = true → m i = some a → ∀ C fs dx, H' a = some (.ins C dx fs) → H a = some (.ins C dx fs)) (h : (Vw.mk G' H' m st).owns b) : (Vw.mk G H m st).owns b := by
  obtain ⟨i, o, a, e, l, em, z⟩ := h
  refine ⟨i, o, a, e, l, em, z.imp id fun ⟨C, fs, q⟩ => ⟨C, fs, hh i o a e l em C fs b q⟩⟩
/-- a new object that is none of the store's, frozen -/
theorem frz_new {v v' : Vw} {p : Addr} {u : HO} (l : Le v v') (s : SR K ct v') (hp : v.H p = none) (gp : v'.G p = none) (hu : v'.H p = some u) (no : ¬ v'.owns p) : Le v ⟨upd v'.G p u, v'.H, v'.m, v'.st⟩ ∧ SR K ct ⟨upd v'.G p u, v'.H, v'.m, v'.st⟩ := by
  have sg := same_new gp u
  refine ⟨⟨l.g.trans sg, l.m, l.h, fun b q => ?_, fun b q => l.ow b (owns_same (fun _ _ _ _ _ _ _ _ _ z => z) q), l.al⟩, fun b w q => ?_, s.dom, fun i o e lv => ?_, s.inj, fun i kvs e => FkR.mono (v := v') (v' := ⟨upd v'.G p u, v'.H, v'.m, v'.st⟩) sg .refl (s.fk i kvs e)⟩
  · by_cases z : b = p
    · exact .inr (.inl (z ▸ hp))
    · have q' : upd v'.G p u b ≠ none := q
      rw [upd_ne z] at q'
      exact l.nw b q'
  · have q' : upd v'.G p u b = some w := q
    by_cases z : b = p
    · rw [z, upd_same] at q'
      cases q'
      show v'.H b = some u
      rw [z]
      exact hu
    · rw [upd_ne z] at q'
      exact s.sub _ _ q'
  · obtain ⟨a, em, ga, r⟩ := s.obj i o e lv
    have na : a ≠ p := fun z => no ⟨i, o, a, e, lv, em, .inl z.symm⟩
    exact ⟨a, em, (upd_ne na).trans ga, r.mono' (v := v') sg .refl rfl fun C dx fs q0 q1 q2 => ⟨rfl, (upd_ne fun z => no ⟨i, o, a, e, lv, em, .inr ⟨C, fs, by rw [← z]; exact q0⟩⟩).trans q2⟩⟩
/-- a new list, from here on the store's -/
theorem adopt {v v' : Vw} {p : Addr} {xs : List D} {vs : List V} (l : Le v v') (s : SR K ct v') (hp : v.H p = none) (gp : v'.G p = none) (hu : v'.H p = some (.lst vs)) (no : ¬ v'.owns p) (r : RepL K ct v'.G v'.m xs vs) :
    Le v (v'.alloc p v'.H (.lst xs)) ∧ SR K ct (v'.alloc p v'.H (.lst xs)) := by
  have m0 : v'.m v'.st.length = none := s.dom _ (Nat.le_refl _)
  have gr : Grow v'.m (mset v'.m v'.st.length p) := mset_grow m0
  have get : ∀ {i : Nat} {u : O}, (v'.alloc p v'.H (.lst xs)).st[i]? = some u → (i < v'.st.length ∧ v'.st[i]? = some u) ∨ (i = v'.st.length ∧ u = .lst xs) := fun e => get_snoc e
  have np : ∀ {i : Nat} {u : O} {a : Addr}, v'.st[i]? = some u → u.live = true → v'.m i = some a → a ≠ p := fun {i u a} e lv em z => no ⟨i, u, a, e, lv, em, .inl z.symm⟩
  refine ⟨⟨l.g, l.m.trans gr, l.h, l.nw, fun b ⟨i, u, a, e, lv, em, q⟩ => ?_, l.al⟩, s.sub, fun i hi => ?_, fun i u e lv => ?_, fun i j u w a e1 e2 l1 l2 m1 m2 => ?_, fun i kvs e => ?_⟩
  · have em' : mset v'.m v'.st.length p i = some a := em
    rcases get e with ⟨z, e⟩ | ⟨rfl, rfl⟩
    · rw [mset_ne (Nat.ne_of_lt z)] at em'
      exact l.ow b ⟨i, u, a, e, lv, em', q⟩
    · rw [mset_same] at em'
      cases em'
      rcases q with rfl | ⟨C, fs, q⟩
      · exact .inr hp
      · have q' : v'.H p = some (.ins C b fs) := q
        rw [hu] at q'
        cases q'
  · have hl : v'.st.length + 1 ≤ i := by simpa [Vw.alloc] using hi
    show mset v'.m v'.st.length p i = none
    rw [mset_ne (by omega)]
    exact s.dom i (by omega)
  · rcases get e with ⟨z, e⟩ | ⟨rfl, rfl⟩
    · obtain ⟨a, em, ga, r⟩ := s.obj i u e lv
      exact ⟨a, (mset_ne (Nat.ne_of_lt z)).trans em, ga, r.mono' (v := v') (v' := v'.alloc p v'.H (.lst xs)) (Same.refl _) gr rfl fun C dx fs _ q1 q2 => ⟨rfl, q2⟩⟩
    · exact ⟨p, mset_same, gp, vs, hu, r.mono (Same.refl _) gr⟩
  · have m1' : mset v'.m v'.st.length p i = some a := m1
    have m2' : mset v'.m v'.st.length p j = some a := m2
    rcases get e1 with ⟨z1, f1⟩ | ⟨y1, f1⟩ <;> rcases get e2 with ⟨z2, f2⟩ | ⟨y2, f2⟩
    · rw [mset_ne (Nat.ne_of_lt z1)] at m1'
      rw [mset_ne (Nat.ne_of_lt z2)] at m2'
      exact s.inj i j u w a f1 f2 l1 l2 m1' m2'
    · rw [mset_ne (Nat.ne_of_lt z1)] at m1'
      rw [y2, mset_same] at m2'
      cases m2'
      exact absurd rfl (np f1 l1 m1')
    · rw [mset_ne (Nat.ne_of_lt z2)] at m2'
      rw [y1, mset_same] at m1'
      cases m1'
      exact absurd rfl (np f2 l2 m2')
    · rw [y1, y2]
  · rcases get e with ⟨_, f⟩ | ⟨_, f⟩
    · exact FkR.mono (v := v') (v' := v'.alloc p v'.H (.lst xs)) (Same.refl _) gr (s.fk i kvs f)
    · cases f
/-- what is none of the store's, and not frozen, may be changed aside -/
theorem side_ok {v : Vw} {p : Addr} {u : HO} (s : SR K ct v) (gp : v.G p = none) (no : ¬ v.owns p) : SR K ct ⟨v.G, upd v.H p u, v.m, v.st⟩ ∧ ∀ b, (Vw.mk v.G (upd v.H p u) v.m v.st).owns b → v.owns b := by
  have np : ∀ {i : Nat} {o : O} {a : Addr}, v.st[i]? = some o → o.live = true → v.m i = some a → a ≠ p := fun {i o a} e lv em z => no ⟨i, o, a, e, lv, em, .inl z.symm⟩
  refine ⟨⟨fun b w q => ?_, s.dom, fun i o e lv => ?_, s.inj, fun i kvs e => FkR.mono (v := v) (v' := ⟨v.G, upd v.H p u, v.m, v.st⟩) (Same.refl _) .refl (s.fk i kvs e)⟩, fun b q => owns_same (fun i o a e lv em C fs dx z => by rwa [upd_ne (np e lv em)] at z) q⟩
  · have q' : v.G b = some w := q
    have z : b ≠ p := fun z => by rw [z, gp] at q'; cases q'
    show upd v.H p u b = some w
    rw [upd_ne z]
    exact s.sub _ _ q'
  · obtain ⟨a, em, ga, r⟩ := s.obj i o e lv
    exact ⟨a, em, ga, r.mono' (v := v) (Same.refl _) .refl (upd_ne (np e lv em)) fun C dx fs q0 q1 q2 => ⟨upd_ne fun z => no ⟨i, o, a, e, lv, em, .inr ⟨C, fs, by rw [← z]; exact q0⟩⟩, q2⟩⟩
end
section
variable {X : Cx} {C : Cc} {pos : Pos} {e : Expr} {es : List Expr} {f : Fr} {r : As}
theorem lift_fz {K : PySem.W.Frag} {σ : L2.St} {H : Hp} {Q : VK} (h : liftE K C (eFz f) σ H Q) : liftF K C f σ H Q := by
  obtain ⟨δ, v, re, eH, h⟩ := h
  refine ⟨δ, v, re, eH, ?_⟩
  unfold eFz at h
  cases q : f δ v.st with
  | stk => rw [q] at h; exact h
  | exc e s => rw [q] at h; exact h
  | ok xs s =>
    rw [q] at h
    intro p vs v' l sr es hp gp hh no r
    obtain ⟨l2, s2⟩ := frz_new l sr hp gp hh no
    exact h (.ref p) ⟨upd v'.G p (.lst vs), v'.H, v'.m, v'.st⟩ l2 s2 es (.lst (SqL.of upd_same) (r.mono (same_new gp _) .refl))
theorem lift_nw {K : PySem.W.Frag} {σ : L2.St} {H : Hp} {Q : VK} (h : liftE K C (eNw f) σ H Q) : liftF K C f σ H Q := by
  obtain ⟨δ, v, re, eH, h⟩ := h
  refine ⟨δ, v, re, eH, ?_⟩
  unfold eNw at h
  cases q : f δ v.st with
  | stk => rw [q] at h; exact h
  | exc e s => rw [q] at h; exact h
  | ok xs s =>
    rw [q] at h
    intro p vs v' l sr es hp gp hh no r
    obtain ⟨l2, s2⟩ := adopt l sr hp gp hh no r
    subst es
    exact h (.ref p) (v'.alloc p v'.H (.lst xs)) l2 s2 rfl (.ob mset_same)
theorem SF.fz (h : SF X C e f) : SE X C e (eFz f) := pe_weak h fun σ H Q z => lift_fz z
theorem SF.nw (h : SF X C e f) : SE X C e (eNw f) := pe_weak h fun σ H Q z => lift_nw z
theorem onF_bind {α β : Type} {K : PySem.W.Frag} {σ : L2.St} {v : Vw} {rel : α → β → Vw → Prop} {r : R α} {k : α → Sto → R (List D)} {P : List D → Addr → Vw → Prop} (h : onF K C σ v (r.bind k) P) : on K C σ v rel r fun a _ v1 => onF K C σ v1 (k a v1.st) P := by
  cases r with
  | ok a s =>
    intro b v1 l sr e q
    subst e
    have h' : onF K C σ v (k a v1.st) P := h
    show onF K C σ v1 (k a v1.st) P
    cases e : k a v1.st with
    | ok xs s2 =>
      rw [e] at h'
      intro p vs v2 l2 sr2 es hp gp hh no rr
      exact h' p vs v2 (l.trans l2) sr2 es (l.al p hp) gp hh no rr
    | exc e2 s2 => rw [e] at h'; exact fun cls dd w l2 => h' cls dd w (l.trans l2)
    | stk => rw [e] at h'; exact h'
  | exc e s => exact h
  | stk => exact h
end
end Gs

/-! G7: new lists: displays, list(..), comprehensions. -/
namespace Gs
open PySem L2
section
variable {X : Cx} {C : Cc} {pos : Pos} {e : Expr} {es : List Expr} {f : Fr} {r : As}
theorem newH {K : PySem.W.Frag} {ct : String → Addr} {v : Vw} {p : Addr} {u : HO} (sr : SR K ct v) (hp : v.H p = none) : Le v ⟨v.G, upd v.H p u, v.m, v.st⟩ ∧ SR K ct ⟨v.G, upd v.H p u, v.m, v.st⟩ ∧ ¬ (Vw.mk v.G (upd v.H p u) v.m v.st).owns p := by
  obtain ⟨l, s⟩ := more_ok sr (same_new hp u)
  refine ⟨l, s, fun q => ?_⟩
  obtain ⟨i, o, a, e, lv, em, z⟩ := q
  obtain ⟨_, w, hw, _⟩ := sr.obj_ne e lv em
  have na : a ≠ p := ne_of_none hw hp
  rcases z with z | ⟨C, fs, z⟩
  · exact na z.symm
  · have z' : upd v.H p u a = some (.ins C p fs) := z
    rw [upd_ne na] at z'
    obtain ⟨h1, _⟩ := sr.dx e lv em z'
    rw [hp] at h1
    cases h1
def fLst (r : As) : Fr := fun δ s => (r δ s).bind fun xs s1 => if xs.length ≤ sizeLine then .ok xs s1 else .stk
theorem sf_lst (h : SA X C es r) : SF X C (.List es pos) (fLst r) := pe_weak (pe_lst h) fun σ H Q ⟨δ, v, re, eH, h⟩ =>
  ⟨δ, v, re, eH, on_mono (onF_bind h) fun ds vs v1 l1 s1 r1 h1 => by
    have hl := r1.length
    by_cases z : ds.length ≤ sizeLine
    · rw [if_pos z] at h1
      refine ⟨by omega, fun p hp => ?_⟩
      obtain ⟨l2, s2, no⟩ := newH (u := .lst vs) s1 hp
      exact h1 p vs ⟨v1.G, upd v1.H p (.lst vs), v1.m, v1.st⟩ l2 s2 rfl hp (s1.free hp) upd_same no r1
    · rw [if_neg z] at h1
      exact h1.elim⟩
/-- list(x) -/
def fList (f : E) : Fr := fun δ s => (f δ s).bind fun d s1 => match rsv s1 d with
  | .lst xs => .ok xs s1
  | .tup xs => .ok xs s1
  | .str x => if x.length ≤ sizeLine then .ok (signs x) s1 else .stk
  | _ => .stk
theorem sf_list (hc : X.calm = true) {x : Str} {p : Pos} {a : Expr} {fa : E} (hx : x = "list") (hg : Gl X x) (hm : X.mg x = none) (ha : SE X C a fa) (hv : bootBuiltins x = some (.type "list")) (hn : x ≠ "__name__" := by decide) (hdb : (x == ("__debug__" : Str)) = false := by decide)
    (he : starEach [a] X.env = (false, eval a X.env) :: starEach [] X.env := by rfl) (hpl : (backTo pos (starEach [] X.env)).any (·.1) = false := by rfl) : SF X C (.Call (.Name x p) [a] [] pos) (fList fa) :=
  ⟨fun pins s σ H Q I ⟨δ, v, re, eH, h⟩ => by
    have go : ∀ (v1 : Vw) (vs : List V) (ds : List D) (c : Addr), Le v v1 → SR X.K C.ct v1 → v1.H c = none → RepL X.K C.ct v1.G v1.m ds vs → onF X.K C σ v1 (.ok ds v1.st) (fun _ p v' => Q (.ref p) v'.H) → Q (.ref c) (upd v1.H c (.lst vs)) := fun v1 vs ds c _ s1 hc rr hh => by
      obtain ⟨l2, s2, no⟩ := newH (u := .lst vs) s1 hc
      exact hh c vs ⟨v1.G, upd v1.H c (.lst vs), v1.m, v1.st⟩ l2 s2 rfl hc (s1.free hc) upd_same no rr
    have hz := onF_bind (rel := rE X.K C.ct) h
    have P1 : PE X (.Call (.Name x p) [a] [] pos) _ := pe_callTy call_list_of hg hm hv (pa_cons ha pa_nil he) hn hdb he hpl
    have seqs : (on X.K C σ v (rE X.K C.ct) (fa δ v.st) fun _ x v' => ∃ p ys, x = .ref p ∧ (SqL X.K v'.H p ys ∨ SqT X.K v'.H p ys) ∧ ∀ l, v'.H l = none → Q (.ref l) (upd v'.H l (.lst ys))) → _ := fun z => P1.run pins s σ H Q I ⟨δ, v, re, eH, on_mono z fun _ x v' _ _ _ ⟨p, ys, e, w⟩ => ⟨p, ys, by rw [e], w⟩⟩
    cases q : fa δ v.st with
    | stk => rw [q] at hz; exact hz.elim
    | exc e s1 => exact seqs (by rw [q] at hz ⊢; exact hz)
    | ok d s1 =>
      rw [q] at hz
      cases z : rsv s1 d with
      | lst xs =>
        refine seqs ?_
        rw [q]
        intro x v1 l1 sr1 es r1
        have h1 := hz x v1 l1 sr1 es r1
        have t := r1.top sr1
        subst es
        simp only [z] at h1
        rw [z] at t
        cases t with
        | @lst a vs _ p q => exact ⟨a, vs, rfl, .inl p, fun c hc => go v1 _ _ c l1 sr1 hc q h1⟩
      | tup xs =>
        refine seqs ?_
        rw [q]
        intro x v1 l1 sr1 es r1
        have h1 := hz x v1 l1 sr1 es r1
        have t := r1.top sr1
        subst es
        simp only [z] at h1
        rw [z] at t
        cases t with
        | @tup a vs _ p q => exact ⟨a, vs, rfl, .inr (sqt_mono sr1.sub p), fun c hc => go v1 _ _ c l1 sr1 hc q h1⟩
      | str y =>
        refine (pe_callTy (call_list_text hc) hg hm hv (pa_cons ha pa_nil he) hn hdb he hpl).run pins s σ H Q I ⟨δ, v, re, eH, ?_⟩
        rw [q]
        intro x v1 l1 sr1 es r1
        have h1 := hz x v1 l1 sr1 es r1
        have t := r1.top sr1
        subst es
        simp only [z] at h1
        rw [z] at t
        cases t
        split at h1
        · rename_i hy
          exact ⟨y, rfl, hy, fun c hc => go v1 _ _ c l1 sr1 hc (RepL.signs y) h1⟩
        · exact h1.elim
      | _ =>
        refine seqs ?_
        rw [q]
        intro x v1 l1 sr1 es r1
        have h1 := hz x v1 l1 sr1 es r1
        subst es
        simp only [z] at h1
        exact h1.elim⟩
end
/-! ### comprehensions -/
def wipeD (δ : Sl) : List Nat → Sl
  | [] => δ
  | v :: vs => (wipeD δ vs).set v none
theorem RE.wipe {K : PySem.W.Frag} {C : Cc} {σ : L2.St} {δ : Sl} {v : Vw} (r : RE K C σ δ v) : ∀ vs : List Nat, RE K C (L2.wipe σ vs) (wipeD δ vs) v
  | [] => r
  | i :: vs => (RE.wipe r vs).setU i none
theorem RE.wish {K : PySem.W.Frag} {C : Cc} {σ : L2.St} {δ : Sl} {v : Vw} (r : RE K C σ δ v) (W : WX) : RE K { C with W := W } σ δ v := ⟨r.le, r.sr, r.len, r.sl⟩
theorem wipe_get (σ : L2.St) : ∀ (vs : List Nat) (j : Nat), (L2.wipe σ vs)[j]? = if j ∈ vs ∧ j < σ.length then some none else σ[j]?
  | [], j => by simp [L2.wipe]
  | v :: vs, j => by
    unfold L2.wipe
    by_cases e : v = j
    · subst e
      by_cases h : v < σ.length
      · rw [List.getElem?_set_self (by rw [wipe_length]; exact h), if_pos ⟨List.mem_cons_self .., h⟩]
      · rw [if_neg fun z => h z.2, List.getElem?_eq_none (by rw [List.length_set, wipe_length]; omega), List.getElem?_eq_none (by omega)]
    · rw [List.getElem?_set_ne e, wipe_get σ vs j]
      have : (j ∈ v :: vs) ↔ j ∈ vs := by simp [Ne.symm e]
      simp only [this]
theorem wipe_off {is vs : List Nat} {σ σ' : L2.St} (o : Off is (L2.wipe σ vs) σ') (h : ∀ i ∈ is, i ∈ vs) : L2.wipe σ' vs = L2.wipe σ vs := by
  have hl : σ'.length = σ.length := by rw [o.1, wipe_length]
  apply List.ext_getElem?
  intro j
  rw [wipe_get, wipe_get, hl]
  by_cases hj : j ∈ vs ∧ j < σ.length
  · rw [if_pos hj, if_pos hj]
  · rw [if_neg hj, if_neg hj]
    by_cases hj2 : j ∈ vs
    · have : ¬ j < σ.length := fun z => hj ⟨hj2, z⟩
      rw [List.getElem?_eq_none (by omega), List.getElem?_eq_none (by omega)]
    · rw [o.2 j fun z => hj2 (h j z), wipe_get, if_neg hj]
abbrev Cc.nox (C : Cc) : Cc := { C with W := fun _ _ _ _ => False }
/-- what the turns give -/
def lcD (p : Pt) (c : T) (e : E) (δ : Sl) : List D → Sto → R (List D)
  | [], s => .ok [] s
  | d :: ds, s => match bindP p d δ with
    | none => .stk
    | some δ1 => match c δ1 s with
      | .ok true s1 => (match e δ1 s1 with
        | .ok y s2 => (match lcD p c e δ ds s2 with
          | .ok r s3 => .ok (y :: r) s3
          | _ => .stk)
        | _ => .stk)
      | .ok false s1 => lcD p c e δ ds s1
      | _ => .stk
theorem lcD_exc {p : Pt} {c : T} {e : E} {δ : Sl} : ∀ (ds : List D) (s : Sto) (ex : Ex) (s' : Sto), lcD p c e δ ds s ≠ .exc ex s'
  | [], s, ex, s', z => nomatch z
  | d :: ds, s, ex, s', z => by
    simp only [lcD] at z
    split at z
    · exact nomatch z
    · split at z
      · split at z
        · split at z <;> exact nomatch z
        · exact nomatch z
      · exact lcD_exc ds _ _ _ z
      · exact nomatch z
def fLc (it : As) (vs : List Nat) (p : Pt) (c : T) (e : E) : Fr := fun δ s => (it δ s).bind fun items s1 => (lcD p c e (wipeD δ vs) items s1).bind fun xs s2 => if xs.length ≤ sizeLine then .ok xs s2 else .stk
def tTrue : T := fun _ s => .ok true s
section
variable {X : Cx} {C : Cc} {pos : Pos}
/-- a list that is being made at L stays aside -/
structure Aside (v : Vw) (L : Addr) (va : List V) : Prop where
  h : v.H L = some (.lst va)
  g : v.G L = none
  no : ¬ v.owns L
theorem Aside.step {v v' : Vw} {L : Addr} {va : List V} (a : Aside v L va) (l : Le v v') : Aside v' L va := by
  refine ⟨l.h _ _ a.h a.no, ?_, fun q => ?_⟩
  · cases z : v'.G L with
    | none => rfl
    | some o =>
      rcases l.nw L (by rw [z]; exact fun y => nomatch y) with y | y | y
      · exact absurd a.g y
      · rw [a.h] at y; cases y
      · exact absurd y a.no
  · rcases l.ow L q with y | y
    · exact a.no y
    · rw [a.h] at y; cases y
theorem lift_lc {K : PySem.W.Frag} {it : As} {vs : List Nat} {p : Pt} {c : T} {e : E} (hp : ∀ i ∈ idxP p, i ∈ vs) {σ : L2.St} {H : Hp} {Q : VK} (h : liftF K C (fLc it vs p c e) σ H Q) :
    tLc (liftI K C it) (liftG K C.nox p) (liftT K C.nox c) (liftE K C.nox e) vs σ H Q := by
  obtain ⟨δ, v, re, eH, h⟩ := h
  refine ⟨δ, v, re, eH, on_mono (onF_bind h) fun items J v1 l1 sr1 ok h1 => ?_⟩
  intro L hD
  have h2 : onF K C σ v1 ((lcD p c e (wipeD δ vs) items v1.st).bind fun xs s2 => if xs.length ≤ sizeLine then .ok xs s2 else .stk) fun _ p v' => Q (.ref p) v'.H := h1
  clear h1
  cases q1 : lcD p c e (wipeD δ vs) items v1.st with
  | stk => rw [q1] at h2; exact h2.elim
  | exc ex s' => exact absurd q1 (lcD_exc _ _ _ _)
  | ok xs s9 =>
    rw [q1] at h2
    have h3 : xs.length ≤ sizeLine ∧ ∀ (va : List V) (v2 : Vw), Le v1 v2 → SR K C.ct v2 → v2.st = s9 → Aside v2 L va → RepL K C.ct v2.G v2.m xs va → Q (.ref L) v2.H := by
      have h4 : onF K C σ v1 (if xs.length ≤ sizeLine then .ok xs s9 else .stk) fun _ p v' => Q (.ref p) v'.H := h2
      by_cases z : xs.length ≤ sizeLine
      · rw [if_pos z] at h4
        exact ⟨z, fun va v2 l2 s2 es a2 ra => h4 L va v2 l2 s2 es hD a2.g a2.h a2.no ra⟩
      · rw [if_neg z] at h4
        exact h4.elim
    obtain ⟨hz, fin⟩ := h3
    clear h2
    have start : ∃ v2, v2.H = upd v1.H L (.lst []) ∧ Le v1 v2 ∧ SR K C.ct v2 ∧ Aside v2 L [] ∧ v2.st = v1.st := by
      obtain ⟨l2, s2, no⟩ := newH (u := .lst []) sr1 hD
      exact ⟨⟨v1.G, upd v1.H L (.lst []), v1.m, v1.st⟩, rfl, l2, s2, ⟨upd_same, sr1.free hD, no⟩, rfl⟩
    refine ⟨fun i m H2 => m = items.length - i ∧ i ≤ items.length ∧ ∃ (v2 : Vw) (acc rest : List D) (va : List V), v2.H = H2 ∧ Le v1 v2 ∧ SR K C.ct v2 ∧ Aside v2 L va ∧ RepL K C.ct v2.G v2.m acc va ∧
      lcD p c e (wipeD δ vs) (items.drop i) v2.st = .ok rest s9 ∧ acc ++ rest = xs, ?_, ?_⟩
    · obtain ⟨v2, e2, l2, s2, a2, es⟩ := start
      exact ⟨items.length, by simp, Nat.zero_le _, v2, [], xs, [], e2, l2, s2, a2, .nil, by rw [es]; exact q1, rfl⟩
    rintro i m H2 ⟨rfl, hi, v2, acc, rest, va, rfl, l2, s2, a2, ra, el, ex⟩
    by_cases hlt : i < items.length
    · refine .inr ⟨ok.go i v2 l2 s2 hlt, fun H3 => ∃ (v2 : Vw) (acc rest : List D) (va : List V), v2.H = H3 ∧ Le v1 v2 ∧ SR K C.ct v2 ∧ Aside v2 L va ∧ RepL K C.ct v2.G v2.m acc va ∧
        lcD p c e (wipeD δ vs) (items.drop (i + 1)) v2.st = .ok rest s9 ∧ acc ++ rest = xs, fun H' n => ⟨items.length - (i + 1), by omega, rfl, hlt, n⟩, fun x H' y => ?_⟩
      obtain ⟨d, v3, ed, rfl, l3, s3, e3, r3⟩ := ok.yld i v2 x H' l2 s2 hlt y
      have ed2 : items.drop i = d :: items.drop (i + 1) := by
        rw [List.drop_eq_getElem_cons hlt]
        rw [List.getElem?_eq_getElem hlt] at ed
        rw [Option.some.inj ed]
      rw [ed2] at el
      simp only [lcD] at el
      cases eb : bindP p d (wipeD δ vs) with
      | none => rw [eb] at el; exact nomatch el
      | some δ1 =>
        rw [eb] at el
        simp only at el
        have re3 := (((re.step l1 sr1).step l2 s2).step l3 s3)
        refine ⟨d, wipeD δ vs, v3, δ1, (re3.wipe vs).wish _, rfl, r3, eb, fun σ4 re4 o4 => ⟨wipe_off o4 hp, δ1, v3, re4, rfl, ?_⟩⟩
        rw [e3]
        cases ec : c δ1 v2.st with
        | stk => rw [ec] at el; exact nomatch el
        | exc _ _ => rw [ec] at el; exact nomatch el
        | ok b s4 =>
          rw [ec] at el
          intro b2 v4 l4 s4' es4 eb2
          cases eb2
          cases b with
          | true =>
            rw [if_pos rfl]
            simp only at el
            refine ⟨δ1, v4, re4.step l4 s4', rfl, ?_⟩
            rw [es4]
            cases ee : e δ1 s4 with
            | stk => rw [ee] at el; exact nomatch el
            | exc _ _ => rw [ee] at el; exact nomatch el
            | ok y0 s5 =>
              rw [ee] at el
              intro y5 v5 l5 s5' es5 r5
              simp only at el
              cases er : lcD p c e (wipeD δ vs) (items.drop (i + 1)) s5 with
              | stk => rw [er] at el; exact nomatch el
              | exc _ _ => rw [er] at el; exact nomatch el
              | ok rest2 s6 =>
                rw [er] at el
                simp only [R.ok.injEq] at el
                obtain ⟨el, es6⟩ := el
                subst el
                subst es6
                have l25 := (l3.trans l4).trans l5
                have a5 := a2.step l25
                have hl := ra.length
                have hl2 : acc.length + (rest2.length + 1) = xs.length := by rw [← ex]; simp
                obtain ⟨s7, ow7⟩ := side_ok (u := .lst (va ++ [y5])) s5' a5.g a5.no
                refine ⟨va, a5.h, by omega, ⟨v5.G, upd v5.H L (.lst (va ++ [y5])), v5.m, v5.st⟩, acc ++ [y0], rest2, va ++ [y5], rfl, ?_, s7, ⟨upd_same, a5.g, fun q => a5.no (ow7 _ q)⟩, (l25.repl ra).append (RepL.one r5), ?_, by rw [List.append_assoc]; exact ex⟩
                · have l15 := l2.trans l25
                  exact ⟨l15.g, l15.m, fun b o hb nb => by
                    show upd v5.H L _ b = some o
                    rw [upd_ne (ne_of_none hb hD)]
                    exact l15.h b o hb nb, l15.nw, fun b q => l15.ow b (ow7 b q), fun b q => by
                    have q' : upd v5.H L (.lst (va ++ [y5])) b = none := q
                    by_cases z : b = L
                    · rw [z, upd_same] at q'; cases q'
                    · rw [upd_ne z] at q'
                      exact l15.al b q'⟩
                · show lcD p c e (wipeD δ vs) (items.drop (i + 1)) v5.st = .ok rest2 s6
                  rw [es5]
                  exact er
          | false =>
            rw [if_neg Bool.false_ne_true]
            simp only at el
            have l24 := l3.trans l4
            exact ⟨v4, acc, rest, va, rfl, l2.trans l24, s4', a2.step l24, l24.repl ra, by rw [es4]; exact el, ex⟩
    · have ei : i = items.length := by omega
      subst ei
      rw [List.drop_length] at el
      simp only [lcD, R.ok.injEq] at el
      obtain ⟨el, es⟩ := el
      subst el
      rw [List.append_nil] at ex
      subst ex
      exact .inl ⟨ok.stop _ v2 l2 s2 (Nat.le_refl _), fin va v2 l2 s2 es a2 ra⟩
abbrev STs (X : Cx) (C : Cc) (ifs : List Expr) (t : T) : Prop := PTs X ifs (liftT X.K C t)
theorem sts_nil : STs X C [] tTrue := ⟨fun pins s σ H Q I ⟨δ, v, re, eH, h⟩ => by
  subst eH
  exact pts_nil.run pins s σ _ Q I (h true v .refl re.sr rfl rfl)⟩
theorem sts_one {c : Expr} {t : T} (h : ST X C c t) : STs X C [c] t := pts_one h
variable {elt tg iter : Expr} {ifs : List Expr} {scope : Scope} {it : As} {p : Pt} {c : T} {e : E}
theorem sf_lc (own : List (Str × Nat)) (hc : X.calm = true) (hN : X.N.Nodup) (hi : SI X C tg iter it) (ok : BlkOk X.N X.env.scope scope own) (hp : ∀ i ∈ idxP p, i ∈ own.map (·.2))
    (hg : ∀ (s : Shared) (H : Hp) (c0 : Addr) (cl : List (Str × Addr)) (fp : List Addr), SG (X.blk s H scope (compEnvC scope cl c0 X.env) fp) C.nox tg p)
    (ht : ∀ (s : Shared) (H : Hp) (c0 : Addr) (cl : List (Str × Addr)) (fp : List Addr), STs (X.blk s H scope (compEnvC scope cl c0 X.env) fp) C.nox ifs c)
    (he : ∀ (s : Shared) (H : Hp) (c0 : Addr) (cl : List (Str × Addr)) (fp : List Addr), SE (X.blk s H scope (compEnvC scope cl c0 X.env) fp) C.nox elt e) (hs : ∀ x, foldedSetIterable iter X.env x = pure x := by intro _; rfl) :
    SF X C (.ListComp elt [⟨tg, iter, ifs, 0⟩] scope pos) (fLc it (own.map (·.2)) p c e) :=
  pe_weak (pe_lc hc hN hi ok hg ht he hs) fun σ H Q h => lift_lc hp h
/-- y = [..] -/
theorem lift_setLc {K : PySem.W.Frag} {f : Fr} {g : Fr → E} {i : Nat} {Dn : Ends} {σ : L2.St} {H : Hp} {tlc : TE} (w : ∀ σ H Q, liftE K C (g f) σ H Q → tlc σ H Q) (h : liftS K C (sSet i (g f)) Dn σ H) : tAsg tlc (gName i) Dn σ H := by
  refine w _ _ _ ?_
  obtain ⟨δ, v, re, eH, h⟩ := h
  exact ⟨δ, v, re, eH, on_mono (onS_R re h) fun d x v1 l1 s1 r1 h1 => h1 (σ.set i (some x)) v1 ((re.step l1 s1).setV i r1) .refl rfl⟩
theorem ss_setLc (i : Nat) {g : Fr → E} {y : Str} {py spos : Pos} (own : List (Str × Nat)) (hgz : ∀ σ H Q, liftE X.K C (g (fLc it (own.map (·.2)) p c e)) σ H Q → liftF X.K C (fLc it (own.map (·.2)) p c e) σ H Q) (hc : X.calm = true) (hN : X.N.Nodup) (hy : X.N[i]? = some y) (hyl : X.env.scope.names.lookup y = some .local)
    (hsw : swapsWith (.ListComp elt [⟨tg, iter, ifs, 0⟩] scope pos) (some (.Name y py)) spos.line X.env = pure true) (hi : SI X C tg iter it) (ok : BlkOk X.N X.env.scope scope own) (hp : ∀ i ∈ idxP p, i ∈ own.map (·.2))
    (hg : ∀ (s : Shared) (H : Hp) (c0 : Addr) (cl : List (Str × Addr)) (fp : List Addr), SG (X.blk s H scope (compEnvC scope cl c0 X.env) fp) C.nox tg p)
    (ht : ∀ (s : Shared) (H : Hp) (c0 : Addr) (cl : List (Str × Addr)) (fp : List Addr), STs (X.blk s H scope (compEnvC scope cl c0 X.env) fp) C.nox ifs c)
    (he : ∀ (s : Shared) (H : Hp) (c0 : Addr) (cl : List (Str × Addr)) (fp : List Addr), SE (X.blk s H scope (compEnvC scope cl c0 X.env) fp) C.nox elt e) (hs : ∀ x, foldedSetIterable iter X.env x = pure x := by intro _; rfl) :
    SS X C (.Assign [.Name y py] (.ListComp elt [⟨tg, iter, ifs, 0⟩] scope pos) spos) (sSet i (g (fLc it (own.map (·.2)) p c e))) :=
  ps_weak (ps_setLc hc hN hy hyl hsw hi ok hg ht he hs) fun Dn σ H h => lift_setLc (g := g) (fun _ _ _ z => lift_lc hp (hgz _ _ _ z)) h
end
end Gs

/-! G8: in, is of truths; lists of the store; walks. -/
namespace Gs
open PySem L2
def gIn : B2
  | .str x, .str z => match x.cps.toList with
    | [c] => some (.bl (decide (c ∈ z.cps.toList)))
    | _ => none
  | .str x, .tup ds => (strsOf ds).map fun zs => .bl (decide (x ∈ zs))
  | .str x, .lst ds => (strsOf ds).map fun zs => .bl (decide (x ∈ zs))
  | .int x, .tup ds => (intsOf ds).map fun zs => .bl (decide (x ∈ zs))
  | .int x, .lst ds => (intsOf ds).map fun zs => .bl (decide (x ∈ zs))
  | _, _ => none
def gNin : B2 := fun x y => match gIn x y with
  | some (.bl b) => some (.bl !b)
  | _ => none
theorem inV_strs (x : Str) : ∀ zs : List Str, inV (.str x) (zs.map V.str) = decide (x ∈ zs)
  | [] => by simp [inV]
  | z :: zs => by
    have ih := inV_strs x zs
    unfold inV at ih ⊢
    rw [List.map_cons, List.any_cons, ih]
    have e : eqV (.str z) (.str x) = (z == x) := rfl
    rw [e]
    by_cases h : z = x
    · simp [h]
    · have h' : ¬ x = z := fun q => h q.symm
      simp [h, h']
theorem flat_strs : ∀ zs : List Str, (zs.map V.str).all flatV = true
  | [] => rfl
  | z :: zs => by
    rw [List.map_cons, List.all_cons, flat_strs zs]
    rfl
theorem inV_ints (x : Int) : ∀ zs : List Int, inV (.int x) (zs.map V.int) = decide (x ∈ zs)
  | [] => by simp [inV]
  | z :: zs => by
    have ih := inV_ints x zs
    unfold inV at ih ⊢
    rw [List.map_cons, List.any_cons, ih]
    have e : eqV (.int z) (.int x) = (z == x) := rfl
    rw [e]
    by_cases h : z = x
    · simp [h]
    · have h' : ¬ x = z := fun q => h q.symm
      simp [h, h']
theorem flat_ints : ∀ zs : List Int, (zs.map V.int).all flatV = true
  | [] => rfl
  | z :: zs => by
    rw [List.map_cons, List.all_cons, flat_ints zs]
    rfl
theorem one_sign {x : Str} {c : Nat} (h : x.cps.toList = [c]) : x = ⟨#[c]⟩ := by
  cases x with
  | mk a =>
    congr 1
    exact Array.toList_inj.mp h
section
variable {X : Cx}
theorem o_in {ct : String → Addr} : OpR X (compareOp .In) (rD X.K ct gIn) := by
  intro pins s σ H x y v u Q I rx ry h
  obtain ⟨v0, dx, dy, d, rfl, sr, e, r1, r2, h⟩ := h
  cases r1 <;> cases r2 <;> simp only [gIn, reduceCtorEq] at e
  · rename_i x a vs ds p q
    cases hz : intsOf ds with
    | none => rw [hz] at e; exact nomatch e
    | some zs =>
      rw [hz] at e
      simp only [Option.map_some, Option.some.injEq] at e
      subst e
      have hd := intsOf_eq hz
      subst hd
      have hv := RepL.of_ints q
      subst hv
      refine op_in_seq pins s σ _ _ _ v u Q I rx ry ⟨a, _, rfl, .inr (sqt_mono sr.sub p), rfl, flat_ints zs, ?_⟩
      rw [inV_ints]
      exact h _ v0 .refl sr rfl (.bl _)
  · rename_i x a vs ds p q
    cases hz : intsOf ds with
    | none => rw [hz] at e; exact nomatch e
    | some zs =>
      rw [hz] at e
      simp only [Option.map_some, Option.some.injEq] at e
      subst e
      have hd := intsOf_eq hz
      subst hd
      have hv := RepL.of_ints q
      subst hv
      refine op_in_seq pins s σ _ _ _ v u Q I rx ry ⟨a, _, rfl, .inl p, rfl, flat_ints zs, ?_⟩
      rw [inV_ints]
      exact h _ v0 .refl sr rfl (.bl _)
  · rename_i x z
    split at e
    · rename_i c hc
      simp only [Option.some.injEq] at e
      subst e
      exact op_in_sign pins s σ _ _ _ v u Q I rx ry ⟨c, z, by rw [one_sign hc], rfl, h _ v0 .refl sr rfl (.bl _)⟩
    · exact nomatch e
  · rename_i x a vs ds p q
    cases hz : strsOf ds with
    | none => rw [hz] at e; exact nomatch e
    | some zs =>
      rw [hz] at e
      simp only [Option.map_some, Option.some.injEq] at e
      subst e
      have hd := strsOf_eq hz
      subst hd
      have hv := RepL.of_strs q
      subst hv
      refine op_in_seq pins s σ _ _ _ v u Q I rx ry ⟨a, _, rfl, .inr (sqt_mono sr.sub p), rfl, flat_strs zs, ?_⟩
      rw [inV_strs]
      exact h _ v0 .refl sr rfl (.bl _)
  · rename_i x a vs ds p q
    cases hz : strsOf ds with
    | none => rw [hz] at e; exact nomatch e
    | some zs =>
      rw [hz] at e
      simp only [Option.map_some, Option.some.injEq] at e
      subst e
      have hd := strsOf_eq hz
      subst hd
      have hv := RepL.of_strs q
      subst hv
      refine op_in_seq pins s σ _ _ _ v u Q I rx ry ⟨a, _, rfl, .inl p, rfl, flat_strs zs, ?_⟩
      rw [inV_strs]
      exact h _ v0 .refl sr rfl (.bl _)
theorem o_nin {ct : String → Addr} : OpR X (compareOp .NotIn) (rD X.K ct gNin) := by
  intro pins s σ H x y v u Q I rx ry h
  obtain ⟨v0, dx, dy, d, rfl, sr, e, r1, r2, h⟩ := h
  unfold gNin at e
  cases r1 <;> cases r2 <;> simp only [gIn, reduceCtorEq] at e
  · rename_i x a vs ds p q
    cases hz : intsOf ds with
    | none => rw [hz] at e; exact nomatch e
    | some zs =>
      rw [hz] at e
      simp only [Option.map_some, Option.some.injEq] at e
      subst e
      have hd := intsOf_eq hz
      subst hd
      have hv := RepL.of_ints q
      subst hv
      refine op_notIn_seq pins s σ _ _ _ v u Q I rx ry ⟨a, _, rfl, .inr (sqt_mono sr.sub p), rfl, flat_ints zs, ?_⟩
      rw [inV_ints]
      exact h _ v0 .refl sr rfl (.bl _)
  · rename_i x a vs ds p q
    cases hz : intsOf ds with
    | none => rw [hz] at e; exact nomatch e
    | some zs =>
      rw [hz] at e
      simp only [Option.map_some, Option.some.injEq] at e
      subst e
      have hd := intsOf_eq hz
      subst hd
      have hv := RepL.of_ints q
      subst hv
      refine op_notIn_seq pins s σ _ _ _ v u Q I rx ry ⟨a, _, rfl, .inl p, rfl, flat_ints zs, ?_⟩
      rw [inV_ints]
      exact h _ v0 .refl sr rfl (.bl _)
  · rename_i x z
    split at e
    · rename_i b hb
      simp only [Option.some.injEq] at e
      subst e
      split at hb
      · rename_i c hc
        simp only [Option.some.injEq, D.bl.injEq] at hb
        subst hb
        exact op_notIn_sign pins s σ _ _ _ v u Q I rx ry ⟨c, z, by rw [one_sign hc], rfl, h _ v0 .refl sr rfl (.bl _)⟩
      · exact nomatch hb
    · exact nomatch e
  · rename_i x a vs ds p q
    cases hz : strsOf ds with
    | none => rw [hz] at e; exact nomatch e
    | some zs =>
      rw [hz] at e
      simp only [Option.map_some, Option.some.injEq] at e
      subst e
      have hd := strsOf_eq hz
      subst hd
      have hv := RepL.of_strs q
      subst hv
      refine op_notIn_seq pins s σ _ _ _ v u Q I rx ry ⟨a, _, rfl, .inr (sqt_mono sr.sub p), rfl, flat_strs zs, ?_⟩
      rw [inV_strs]
      exact h _ v0 .refl sr rfl (.bl _)
  · rename_i x a vs ds p q
    cases hz : strsOf ds with
    | none => rw [hz] at e; exact nomatch e
    | some zs =>
      rw [hz] at e
      simp only [Option.map_some, Option.some.injEq] at e
      subst e
      have hd := strsOf_eq hz
      subst hd
      have hv := RepL.of_strs q
      subst hv
      refine op_notIn_seq pins s σ _ _ _ v u Q I rx ry ⟨a, _, rfl, .inl p, rfl, flat_strs zs, ?_⟩
      rw [inV_strs]
      exact h _ v0 .refl sr rfl (.bl _)
def gIsB : B2
  | .bl a, .bl b => some (.bl (decide (a = b)))
  | _, _ => none
def gNotB : B2
  | .bl a, .bl b => some (.bl (!decide (a = b)))
  | _, _ => none
theorem o_isB {ct : String → Addr} : OpR X (compareOp .Is) (rD X.K ct gIsB) := by
  intro pins s σ H x y v u Q I rx ry h
  obtain ⟨v0, dx, dy, d, rfl, sr, e, r1, r2, h⟩ := h
  cases r1 <;> cases r2 <;> simp only [gIsB, Option.some.injEq, reduceCtorEq] at e
  subst e
  exact op_isBl pins s σ _ _ _ v u Q I rx ry ⟨_, _, rfl, rfl, h _ v0 .refl sr rfl (.bl _)⟩
theorem o_notB {ct : String → Addr} : OpR X (compareOp .IsNot) (rD X.K ct gNotB) := by
  intro pins s σ H x y v u Q I rx ry h
  obtain ⟨v0, dx, dy, d, rfl, sr, e, r1, r2, h⟩ := h
  cases r1 <;> cases r2 <;> simp only [gNotB, Option.some.injEq, reduceCtorEq] at e
  subst e
  exact op_notBl pins s σ _ _ _ v u Q I rx ry ⟨_, _, rfl, rfl, h _ v0 .refl sr rfl (.bl _)⟩
end
/-! ### lists of the store -/
/-- the things of a list of the store -/
def lsO (s : Sto) : D → Option (List D)
  | .ob i => match s[i]? with
    | some (.lst xs) => some xs
    | _ => none
  | _ => none
def stO (s : Sto) (d : D) (xs : List D) : Sto := match d with
  | .ob i => s.set i (.lst xs)
  | _ => s
theorem lsO_at {K : PySem.W.Frag} {ct : String → Addr} {v : Vw} {d : D} {x : V} {xs : List D} (sr : SR K ct v) (r : Rep K ct v.G v.m d x) (e : lsO v.st d = some xs) :
    ∃ i a vs, d = .ob i ∧ x = .ref a ∧ v.m i = some a ∧ v.st[i]? = some (.lst xs) ∧ v.H a = some (.lst vs) ∧ RepL K ct v.G v.m xs vs := by
  unfold lsO at e
  split at e
  · rename_i i
    split at e
    · rename_i ys q
      simp only [Option.some.injEq] at e
      subst e
      cases r with
      | ob em =>
        obtain ⟨a', em', _, vs, h, r2⟩ := sr.obj i _ q rfl
        rw [em] at em'
        cases em'
        exact ⟨i, _, vs, rfl, rfl, em, q, h, r2⟩
    · exact nomatch e
  · exact nomatch e
theorem stO_ok {K : PySem.W.Frag} {ct : String → Addr} {v : Vw} {i : Nat} {a : Addr} {xs ys : List D} {us : List V} (sr : SR K ct v) (em : v.m i = some a) (q : v.st[i]? = some (.lst xs)) (r : RepL K ct v.G v.m ys us) :
    Le v (v.put i a (.lst us) (.lst ys)) ∧ SR K ct (v.put i a (.lst us) (.lst ys)) :=
  put_ok sr q rfl em (fun C b fs z => nomatch z) ⟨us, upd_same, r⟩
section
variable {X : Cx} {C : Cc} {pos : Pos} {o a b e : Expr} {fo fa fb fe : E}
/-- o.append(a) -/
def eApp (o a : E) : E := fun δ s => (o δ s).bind fun x s1 => if (lsO s1 x).isSome = true then ((a δ s1).bind fun y s2 => match lsO s2 x with
  | some xs => if xs.length < sizeLine then .ok .non (stO s2 x (xs ++ [y])) else .stk
  | none => .stk) else .stk
theorem isSome_of {α : Type} {o : Option α} (h : o.isSome = true) : ∃ a, o = some a := Option.isSome_iff_exists.mp h
theorem se_app {p2 p3 : Pos} (ho : SE X C o fo) (ha : SE X C a fa) (hbase : attributeBase o "append" X.env (eval o X.env) = eval o X.env := by rfl)
    (hfew : ((backTo p3 (starEach [a] X.env)).all (fun x => !x.1) && (backToKw p3 (keywordEach [] X.env)).all (fun x => x.1.isSome)
      && decide ([a].length + ([] : List Keyword).length + (if ([] : List Keyword).isEmpty then 0 else 1) < 30)) = true := by rfl)
    (hline : (p2.endLine == p3.line) = true := by rfl) (hst : starEach [a] X.env = (false, eval a X.env) :: starEach [] X.env := by rfl) (hpl : (backTo p3 (starEach [] X.env)).any (·.1) = false := by rfl) :
    SE X C (.Call (.Attribute o "append" p2) [a] [] p3) (eApp fo fa) :=
  pe_weak (pe_bm PySem.F.plainAttrs_list PySem.F.slot_list_append PySem.F.type_list_append mt_append ho (pa_cons ha pa_nil hst) hbase hfew hline hst hpl) fun σ H Q ⟨δ, v, re, eH, h⟩ => by
    refine ⟨δ, v, re, eH, on_mono (on_bind h) fun d x v1 l1 s1 r1 h1 => ?_⟩
    split at h1
    · rename_i hs
      obtain ⟨xs0, e0⟩ := isSome_of hs
      obtain ⟨i, p, vs0, rfl, rfl, em, q0, hh0, _⟩ := lsO_at s1 r1 e0
      refine ⟨.inl ⟨rfl, vs0, SqL.of hh0⟩, δ, v1, re.step l1 s1, rfl, on_mono (on_bind h1) fun y u v2 l2 s2 r2 h2 => ?_⟩
      cases e1 : lsO v2.st (.ob i) with
      | none => rw [e1] at h2; exact h2.elim
      | some xs =>
        rw [e1] at h2
        obtain ⟨i', p', vs, ei, ep, em', q1, hh, r0⟩ := lsO_at s2 (l2.rep r1) e1
        cases ei
        cases ep
        simp only at h2
        split at h2
        · rename_i hz
          have hl := r0.length
          obtain ⟨l3, s3⟩ := stO_ok s2 em' q1 (r0.append (RepL.one r2))
          exact ⟨p, vs, u, rfl, rfl, hh, by omega, h2 .non (v2.put i p (.lst (vs ++ [u])) (.lst (xs ++ [y]))) l3 s3 rfl .non⟩
        · exact h2.elim
    · exact h1.elim
/-- o.pop(a) -/
def ePopAt (o a : E) : E := fun δ s => (o δ s).bind fun x s1 => if (lsO s1 x).isSome = true then ((a δ s1).bind fun y s2 => match lsO s2 x, y with
  | some xs, .int k => if -(2 ^ 63) ≤ k ∧ k < 2 ^ 63 then (match seqIndex? k xs.length with
    | some j => (match xs[j]? with
      | some d => .ok d (stO s2 x (xs.eraseIdx j))
      | none => .stk)
    | none => .stk) else .stk
  | _, _ => .stk) else .stk
theorem se_popAt {p2 p3 : Pos} (ho : SE X C o fo) (ha : SE X C a fa) (hbase : attributeBase o "pop" X.env (eval o X.env) = eval o X.env := by rfl)
    (hfew : ((backTo p3 (starEach [a] X.env)).all (fun x => !x.1) && (backToKw p3 (keywordEach [] X.env)).all (fun x => x.1.isSome)
      && decide ([a].length + ([] : List Keyword).length + (if ([] : List Keyword).isEmpty then 0 else 1) < 30)) = true := by rfl)
    (hline : (p2.endLine == p3.line) = true := by rfl) (hst : starEach [a] X.env = (false, eval a X.env) :: starEach [] X.env := by rfl) (hpl : (backTo p3 (starEach [] X.env)).any (·.1) = false := by rfl) :
    SE X C (.Call (.Attribute o "pop" p2) [a] [] p3) (ePopAt fo fa) :=
  pe_weak (pe_bm PySem.F.plainAttrs_list PySem.F.slot_list_pop PySem.F.type_list_pop mt_popAt ho (pa_cons ha pa_nil hst) hbase hfew hline hst hpl) fun σ H Q ⟨δ, v, re, eH, h⟩ => by
    refine ⟨δ, v, re, eH, on_mono (on_bind h) fun d x v1 l1 s1 r1 h1 => ?_⟩
    split at h1
    · rename_i hs
      obtain ⟨xs0, e0⟩ := isSome_of hs
      obtain ⟨i, p, vs0, rfl, rfl, em, q0, hh0, _⟩ := lsO_at s1 r1 e0
      refine ⟨.inl ⟨rfl, vs0, SqL.of hh0⟩, δ, v1, re.step l1 s1, rfl, on_mono (on_bind h1) fun y u v2 l2 s2 r2 h2 => ?_⟩
      cases e1 : lsO v2.st (.ob i) with
      | none => rw [e1] at h2; exact h2.elim
      | some xs =>
        rw [e1] at h2
        obtain ⟨i', p', vs, ei, ep, em', q1, hh, r0⟩ := lsO_at s2 (l2.rep r1) e1
        cases ei
        cases ep
        have hl := r0.length
        cases r2 with
        | int k =>
          simp only at h2
          split at h2
          · rename_i hk
            cases ej : seqIndex? k xs.length with
            | none => rw [ej] at h2; exact h2.elim
            | some j =>
              rw [ej] at h2
              simp only at h2
              cases ed : xs[j]? with
              | none => rw [ed] at h2; exact h2.elim
              | some d =>
                rw [ed] at h2
                obtain ⟨w, ew, rw2⟩ := r0.get ed
                obtain ⟨l3, s3⟩ := stO_ok s2 em' q1 (r0.erase j)
                exact ⟨p, vs, k, j, w, rfl, rfl, hh, hk.1, hk.2, by rw [← hl]; exact ej, ew, h2 w (v2.put i p (.lst (vs.eraseIdx j)) (.lst (xs.eraseIdx j))) l3 s3 rfl rw2⟩
          · exact h2.elim
        | _ => exact h2.elim
    · exact h1.elim
/-- o.extend(a), a another list -/
def eExt (o a : E) : E := fun δ s => (o δ s).bind fun x s1 => if (lsO s1 x).isSome = true then ((a δ s1).bind fun y s2 => match lsO s2 x, rsv s2 y with
  | some xs, .lst ys => (match y with
    | .ob _ => if xs.length + ys.length ≤ sizeLine then .ok .non (stO s2 x (xs ++ ys)) else .stk
    | _ => .stk)
  | _, _ => .stk) else .stk
theorem se_ext {p2 p3 : Pos} (ho : SE X C o fo) (ha : SE X C a fa) (hbase : attributeBase o "extend" X.env (eval o X.env) = eval o X.env := by rfl)
    (hfew : ((backTo p3 (starEach [a] X.env)).all (fun x => !x.1) && (backToKw p3 (keywordEach [] X.env)).all (fun x => x.1.isSome)
      && decide ([a].length + ([] : List Keyword).length + (if ([] : List Keyword).isEmpty then 0 else 1) < 30)) = true := by rfl)
    (hline : (p2.endLine == p3.line) = true := by rfl) (hst : starEach [a] X.env = (false, eval a X.env) :: starEach [] X.env := by rfl) (hpl : (backTo p3 (starEach [] X.env)).any (·.1) = false := by rfl) :
    SE X C (.Call (.Attribute o "extend" p2) [a] [] p3) (eExt fo fa) :=
  pe_weak (pe_bm PySem.F.plainAttrs_list PySem.F.slot_list_extend PySem.F.type_list_extend mt_extend ho (pa_cons ha pa_nil hst) hbase hfew hline hst hpl) fun σ H Q ⟨δ, v, re, eH, h⟩ => by
    refine ⟨δ, v, re, eH, on_mono (on_bind h) fun d x v1 l1 s1 r1 h1 => ?_⟩
    split at h1
    · rename_i hs
      obtain ⟨xs0, e0⟩ := isSome_of hs
      obtain ⟨i, p, vs0, rfl, rfl, em, q0, hh0, _⟩ := lsO_at s1 r1 e0
      refine ⟨.inl ⟨rfl, vs0, SqL.of hh0⟩, δ, v1, re.step l1 s1, rfl, on_mono (on_bind h1) fun y u v2 l2 s2 r2 h2 => ?_⟩
      cases e1 : lsO v2.st (.ob i) with
      | none => rw [e1] at h2; exact h2.elim
      | some xs =>
        rw [e1] at h2
        obtain ⟨i', p', vs, ei, ep, em', q1, hh, r0⟩ := lsO_at s2 (l2.rep r1) e1
        cases ei
        cases ep
        have hl := r0.length
        split at h2
        · rename_i zs ys ez ey
          cases ez
          split at h2
          · rename_i j
            split at h2
            · rename_i hz
              have eL : lsO v2.st (.ob j) = some ys := by
                unfold rsv at ey
                unfold lsO
                dsimp only at ey ⊢
                split at ey
                · rename_i q5; cases ey; rw [q5]
                · cases ey
                · cases ey
              obtain ⟨j', b, us, ej, eu, emj, qj, hb, rb⟩ := lsO_at s2 r2 eL
              cases ej
              cases eu
              have hl2 := rb.length
              obtain ⟨l3, s3⟩ := stO_ok s2 em' q1 (r0.append rb)
              exact ⟨p, b, vs, us, rfl, rfl, hh, hb, by omega, h2 .non (v2.put i p (.lst (vs ++ us)) (.lst (xs ++ ys))) l3 s3 rfl .non⟩
            · exact h2.elim
          · exact h2.elim
        · exact h2.elim
    · exact h1.elim
/-- a list of the store from here on frozen -/
def frzD (s : Sto) (d : D) : D × Sto := match d with
  | .ob i => (match s[i]? with
    | some (.lst xs) => (.lst xs, s.set i .gone)
    | _ => (d, s))
  | _ => (d, s)
theorem frzD_ok {K : PySem.W.Frag} {ct : String → Addr} {v : Vw} {d : D} {x : V} (sr : SR K ct v) (r : Rep K ct v.G v.m d x) : ∃ v', Le v v' ∧ SR K ct v' ∧ v'.H = v.H ∧ v'.st = (frzD v.st d).2 ∧ Rep K ct v'.G v'.m (frzD v.st d).1 x := by
  unfold frzD
  split
  · rename_i i
    split
    · rename_i xs q
      cases r with
      | @ob _ _ _ a em =>
        obtain ⟨a', em', _, vs, h, r2⟩ := sr.obj i _ q rfl
        rw [em] at em'
        cases em'
        obtain ⟨l, s⟩ := frz_ok sr q rfl em h
        exact ⟨v.frz i a (.lst vs), l, s, rfl, rfl, .lst (SqL.of upd_same) (l.repl r2)⟩
    · exact ⟨v, .refl, sr, rfl, rfl, r⟩
  · exact ⟨v, .refl, sr, rfl, rfl, r⟩
def eFrz (f : E) : E := fun δ s => (f δ s).bind fun d s1 => .ok (frzD s1 d).1 (frzD s1 d).2
theorem se_frz (h : SE X C e fe) : SE X C e (eFrz fe) := pe_weak h fun σ H Q ⟨δ, v, re, eH, h⟩ =>
  ⟨δ, v, re, eH, on_mono (on_bind h) fun d x v1 l1 s1 r1 h1 => by
    obtain ⟨v2, l2, s2, eH2, es2, r2⟩ := frzD_ok s1 r1
    have h2 : Q x v2.H := h1 x v2 l2 s2 es2 r2
    rw [eH2] at h2
    exact h2⟩
/-- the list at x is frozen from here on -/
def sFrz (i : Nat) (f : S) : S := fun δ s => match δ[i]? with
  | some (some d) => f (δ.set i (some (frzD s d).1)) (frzD s d).2
  | _ => f δ s
theorem ss_frz (i : Nat) {st : Stmt} {g : S} (h : SS X C st g) : SS X C st (sFrz i g) := ps_weak h fun Dn σ H ⟨δ, v, re, eH, h⟩ => by
  unfold sFrz at h
  split at h
  · rename_i d q
    obtain ⟨x, e0, r0⟩ := re.sl i d q
    obtain ⟨v2, l2, s2, eH2, es2, r2⟩ := frzD_ok re.sr r0
    have re2 := (re.step l2 s2).setV i r2
    have eσ : σ.set i (some x) = σ := by
      apply List.ext_getElem?
      intro j
      by_cases z : i = j
      · subst z
        rw [List.getElem?_set_self (List.getElem?_eq_some_iff.mp e0).1, e0]
      · rw [List.getElem?_set_ne z]
    rw [eσ] at re2
    rw [← es2] at h
    exact ⟨_, v2, re2, eH2.trans eH, onS_same l2 h⟩
  · exact ⟨δ, v, re, eH, h⟩
/-- o[b] = e of a list of the store -/
def sSetIx (o b e : E) : S := fun δ s => sBind (e δ s) δ fun d s1 => sBind (o δ s1) δ fun x s2 => sBind (b δ s2) δ fun z s3 => match lsO s3 x, z with
  | some xs, .int k => (match ixN xs.length k with
    | some j => .nx δ (stO s3 x (xs.set j d))
    | none => .stk)
  | _, _ => .stk
theorem ss_setIx {p2 : Pos} (ho : SE X C o fo) (hi : SE X C b fb) (he : SE X C e fe)
    (ha : ∀ v, assign (.Subscript o b p2) X.env v = (do
      let ov ← holding [v] (eval o X.env)
      let iv ← holding [v, ov] (eval b X.env)
      standAt p2
      holding [v, ov, iv] (setItem ov iv v)
      release [v, ov, iv] []) := by intro _; rfl)
    (hs : swapsWithSole [.Subscript o b p2] e pos.line X.env = pure false := by rfl) (hw : swappedStores [.Subscript o b p2] e X.env = pure none := by rfl)
    (h1 : (assignEach [.Subscript o b p2] X.env).map (·.2) = [assign (.Subscript o b p2) X.env] := by rfl) :
    SS X C (.Assign [.Subscript o b p2] e pos) (sSetIx fo fb fe) :=
  ps_weak (ps_asg he (pg_sub ho hi set_list ha) hs hw h1) fun Dn σ H ⟨δ, v, re, eH, h⟩ => by
    refine ⟨δ, v, re, eH, on_mono (onS_R re h) fun d x v1 l1 s1 r1 h1 => ?_⟩
    have re1 := re.step l1 s1
    refine ⟨δ, v1, re1, rfl, on_mono (onS_R re1 h1) fun d2 x2 v2 l2 s2 r2 h2 => ?_⟩
    have re2 := re1.step l2 s2
    refine ⟨δ, v2, re2, rfl, on_mono (onS_R re2 h2) fun z u v3 l3 s3 r3 h3 => ?_⟩
    have re3 := re2.step l3 s3
    split at h3
    · rename_i xs k e0
      split at h3
      · rename_i j ej
        obtain ⟨i, p, vs, rfl, rfl, em, q0, hh, r0⟩ := lsO_at s3 (l3.rep r2) e0
        cases r3
        have hl := r0.length
        obtain ⟨l4, s4⟩ := stO_ok s3 em q0 (r0.set j ((l2.trans l3).rep r1))
        exact ⟨p, vs, k, j, rfl, rfl, hh, by rw [← hl]; exact ej, h3 σ (v3.put i p (.lst (vs.set j x)) (.lst (xs.set j d))) (re3.step l4 s4) l4 rfl⟩
      · exact h3.elim
    · exact h3.elim
end
end Gs

/-! G9: walks, constants, ends; reckoning with the functions over data and store. -/
namespace Gs
open PySem L2
theorem hu_big {A : Around} {k : Nat} (hr : Room k A) : A.units + 64 < cLine := hr.units
/-- turns that a while may take -/
def fuel : Nat := 100000
/-- what is asked of the law: a script's numbers, True -/
def spL (K : PySem.W.Frag) (F : List D → Sto → R D) : Sp := fun vs H Q E => ∃ (a : Addr) (ns : List Int) (s' : Sto), vs = [.ref a] ∧ SqL K H a (ns.map V.int) ∧ F [.lst (ns.map D.int)] [] = .ok (.bl true) s' ∧ ∀ H', Q (.bl true) H'
theorem fn_law {P : Program} {w : World} {K : PySem.W.Frag} {mg : Str → Option Value} {base : Heap} {CX : CXT} {k : Nat} {f : Addr} {fd : FuncData} {ps : List Str} {ct : String → Addr} {F : List D → Sto → R D} (h : FnOk P w K mg base CX k f fd ps (spG K ct 1 F)) :
    FnOk P w K mg base CX k f fd ps (spL K F) := by
  have cv : ∀ (vs : List V) (H : Hp) (Q : VK) (E : XK), spL K F vs H Q E → spG K ct 1 F vs H Q E := by
    rintro vs H Q E ⟨a, ns, s', rfl, hS, hF, q⟩
    refine ⟨⟨H, H, fun _ => none, []⟩, [.lst (ns.map D.int)], rfl, ⟨Same.refl _, fun _ _ => rfl, fun i o e => ?_, fun i j o u a e => ?_, fun i kvs e => by simp at e⟩, rfl, .cons (.lst hS (RepL.ints ns)) .nil, ?_⟩
    · simp at e
    · simp at e
    · show match F [.lst (ns.map D.int)] [] with
        | .ok d s => _
        | .exc e s => _
        | .stk => _
      rw [hF]
      intro x v' l sr es r
      cases r
      exact q v'.H
  exact ⟨fun vs H Q E z => h.len vs H Q E (cv vs H Q E z), fun A outer s H args us vs Q E a b c d z => h.run A outer s H args us vs Q E a b c d (cv vs H Q E z)⟩
theorem law_sp {K : PySem.W.Frag} {H : Hp} {a : Addr} {ns : List Int} {F : List D → Sto → R D} (hS : SqL K H a (ns.map V.int)) (h : ∃ s', F [.lst (ns.map D.int)] [] = .ok (.bl true) s') : spL K F [.ref a] H (fun v _ => v = .bl true) fun _ _ _ => False :=
  let ⟨s', e⟩ := h
  ⟨a, ns, s', rfl, hS, e, fun _ => rfl⟩
theorem law_cx {P : Program} {w : World} {H : Hp} {s : Shared} {e : Value} {s' : Shared} (h : L2.CX P w [] H s (fun _ _ _ => False) e s') : False := by
  obtain ⟨_, _, _, _, _, _, _, _, _, _, _, _, z⟩ := h
  exact z
/-! ### constants of the module -/
def KC (K : PySem.W.Frag) (mg : Str → Option Value) (x : Str) (d : D) : Prop := ∀ ct : String → Addr, ∃ v u, mg x = some u ∧ RelV v u ∧ ∀ G m, Rep K ct G m d v
theorem se_con {X : Cx} {C : Cc} {x : Str} {d : D} {pos : Pos} (h : KC X.K X.mg x d) (hg : Gl X x := by rfl) (hd : (x == ("__debug__" : Str)) = false := by decide) : SE X C (.Name x pos) (eC d) := by
  obtain ⟨v, u, hm, r, q⟩ := h C.ct
  exact se_const (pe_glob hg hm r hd) q
theorem kc_tup {K : PySem.W.Frag} {mg : Str → Option Value} {x : Str} {ss : List Str} {a : Addr} {o : Obj} {its : Array Value} {n : Nat} (hm : mg x = some (.ref a)) (hl : K.lookup a = some o) (hc : o.cls = .type "tuple") (hd : o.data = .seq its n) (hs : its.size ≤ sizeLine) (hv : Vals (ss.map V.str) its.toList) : KC K mg x (.tup (ss.map .str)) :=
  fun ct => ⟨.ref a, .ref a, hm, rfl, fun G m => .tup (.inr ⟨o, its, n, hl, hc, hd, hs, hv⟩) (RepL.strs ss)⟩
/-- what is known of an own class of the program, over ValueError, without own __init__ -/
structure XC (K : PySem.W.Frag) (mg : Str → Option Value) (ct : String → Addr) (cn : String) : Prop where
  g : mg (Str.ofString cn) = some (.ref (ct cn))
  k : PySem.W.keepIn K (.ref (ct cn)) = true
  q : PySem.W.excIn K (ct cn) [.type "ValueError", .type "Exception", .type "BaseException", .type "object"] "ValueError.__new__" = true
  b : PySem.W.subIn K (.ref (ct cn)) (.type "BaseException") = some true
  t : PySem.W.typeIn K (.ref (ct cn)) = some (.type "type")
  d : PySem.W.hasDictIn K (ct cn) = true

section
variable {X : Cx} {C : Cc} {pos : Pos}
def sRaise (cn : String) : S := fun δ s => .exc ⟨cn, []⟩ δ s
theorem ss_raise {cn : String} {m : Str} {j : Nat} {p p2 p3 : Pos} (hc : X.calm = true) (tk : Takes X C.W) (c : XC X.K X.mg C.ct cn) (hg : Gl X (Str.ofString cn)) (hdb : ((Str.ofString cn) == ("__debug__" : Str)) = false := by decide) :
    SS X C (.Raise (some (.Call (.Name (Str.ofString cn) p) [.Constant (.str m) j p2] [] p3)) none pos) (sRaise cn) :=
  ps_weak (ps_raise hc tk (pmk_own PySem.F.excBase_ValueError c.q c.g c.k (raises_own c.b c.t) hg hdb)) fun Dn σ H ⟨δ, v, re, eH, h⟩ => by
    subst eH
    exact h _ none σ v re .refl rfl ⟨rfl, .inl ⟨rfl, rfl⟩⟩
end
/-! ### walks -/
/-! max, min of a list of numbers -/
def maxI : List Int → Option Int
  | [] => none
  | x :: xs => match maxI xs with
    | none => some x
    | some m => some (if x ≤ m then m else x)
def minI : List Int → Option Int
  | [] => none
  | x :: xs => match minI xs with
    | none => some x
    | some m => some (if m ≤ x then m else x)
theorem maxI_none : ∀ {xs : List Int}, maxI xs = none → xs = []
  | [], _ => rfl
  | x :: xs, h => by
    simp only [maxI] at h
    split at h <;> exact nomatch h
theorem minI_none : ∀ {xs : List Int}, minI xs = none → xs = []
  | [], _ => rfl
  | x :: xs, h => by
    simp only [minI] at h
    split at h <;> exact nomatch h
theorem maxI_spec : ∀ {xs : List Int} {m : Int}, maxI xs = some m → m ∈ xs ∧ ∀ y ∈ xs, y ≤ m
  | [], m, h => nomatch h
  | x :: xs, m, h => by
    simp only [maxI] at h
    split at h
    · rename_i e
      have := maxI_none e
      subst this
      cases h
      exact ⟨by simp, fun y hy => by simp at hy; omega⟩
    · rename_i m' e
      obtain ⟨h1, h2⟩ := maxI_spec e
      simp only [Option.some.injEq] at h
      subst h
      refine ⟨?_, fun y hy => ?_⟩
      · split
        · exact List.mem_cons_of_mem _ h1
        · exact List.mem_cons_self
      · rcases List.mem_cons.mp hy with rfl | hy
        · split <;> omega
        · have := h2 y hy
          split <;> omega
theorem minI_spec : ∀ {xs : List Int} {m : Int}, minI xs = some m → m ∈ xs ∧ ∀ y ∈ xs, m ≤ y
  | [], m, h => nomatch h
  | x :: xs, m, h => by
    simp only [minI] at h
    split at h
    · rename_i e
      have := minI_none e
      subst this
      cases h
      exact ⟨by simp, fun y hy => by simp at hy; omega⟩
    · rename_i m' e
      obtain ⟨h1, h2⟩ := minI_spec e
      simp only [Option.some.injEq] at h
      subst h
      refine ⟨?_, fun y hy => ?_⟩
      · split
        · exact List.mem_cons_of_mem _ h1
        · exact List.mem_cons_self
      · rcases List.mem_cons.mp hy with rfl | hy
        · split <;> omega
        · have := h2 y hy
          split <;> omega

section
variable {K : PySem.W.Frag} {ct : String → Addr} {v : Vw}
theorem RE.frz {C : Cc} {σ : L2.St} {δ : Sl} {v : Vw} (r : RE K C σ δ v) : Le C.v0 v := r.le
def enumD (xs : List D) : List D := xs.zipIdx.map fun p => .tup [.int (p.2 : Nat), p.1]
theorem itOk_enum {a : Addr} {vs : List V} {ds : List D} (h : SqL K v.G a vs) (r : RepL K ct v.G v.m ds vs) : ItOk K ct (Ite K a) v (enumD ds) where
  go := fun i w l s hi => by
    have hi' : i < ds.length := by simpa [enumD] using hi
    obtain ⟨x, e, _⟩ := r.get (List.getElem?_eq_getElem hi')
    exact ⟨vs, x, s.sub.seq (l.g.seq h), e⟩
  stop := fun i w l s hi => by
    have : ds.length ≤ i := by simpa [enumD] using hi
    exact ⟨vs, s.sub.seq (l.g.seq h), by rw [← r.length]; exact this⟩
  yld := fun i w z H' l s hi y => by
    have hi' : i < ds.length := by simpa [enumD] using hi
    obtain ⟨x, e, rv⟩ := r.get (List.getElem?_eq_getElem hi')
    obtain ⟨T, x', rfl, hT, rfl, y2⟩ := y
    have z2 := y2 vs (s.sub.seq (l.g.seq h))
    rw [e] at z2
    cases z2
    obtain ⟨l2, s2⟩ := new_ok (o := .tup [.int (i : Nat), x]) s hT
    exact ⟨.tup [.int (i : Nat), ds[i]], w.new T (.tup [.int (i : Nat), x]), by simp [enumD, hi'], rfl, l2, s2, rfl, .tup (SqT.of upd_same) (.cons (.int _) (.cons (l2.rep (l.rep rv)) .nil))⟩
theorem itOk_rev {a : Addr} {vs : List V} {ds : List D} (h : SqL K v.G a vs) (r : RepL K ct v.G v.m ds vs) : ItOk K ct (Itv K a vs.length) v ds.reverse where
  go := fun i w l s hi => by
    have hi' : i < ds.length := by simpa using hi
    have hl := r.length
    obtain ⟨x, e, _⟩ := r.get (List.getElem?_eq_getElem (show vs.length - 1 - i < ds.length by omega))
    exact ⟨by omega, vs, x, s.sub.seq (l.g.seq h), e⟩
  stop := fun i w l s hi => by
    have hl := r.length
    have : ds.length ≤ i := by simpa using hi
    show vs.length ≤ i
    omega
  yld := fun i w x H' l s hi y => by
    have hi' : i < ds.length := by simpa using hi
    have hl := r.length
    have hi2 : vs.length - 1 - i < ds.length := by omega
    obtain ⟨x0, e, rv⟩ := r.get (List.getElem?_eq_getElem hi2)
    obtain ⟨rfl, y2⟩ := y
    have z := y2 vs (s.sub.seq (l.g.seq h))
    rw [e] at z
    cases z
    refine ⟨_, w, ?_, rfl, .refl, s, rfl, l.rep rv⟩
    rw [List.getElem?_reverse hi', List.getElem?_eq_getElem (by omega)]
    congr 1
    exact getElem_congr rfl (by omega) _
def zipD (xs ys : List D) : List D := List.zipWith (fun x y => .tup [x, y]) xs ys
theorem zipD_get {xs ys : List D} {i : Nat} (hi : i < (zipD xs ys).length) : ∃ x y, xs[i]? = some x ∧ ys[i]? = some y ∧ (zipD xs ys)[i]? = some (.tup [x, y]) := by
  have h1 : i < xs.length ∧ i < ys.length := by
    simp only [zipD, List.length_zipWith] at hi
    omega
  exact ⟨xs[i], ys[i], List.getElem?_eq_getElem h1.1, List.getElem?_eq_getElem h1.2, by simp [zipD, List.getElem?_zipWith, h1.1, h1.2]⟩
theorem itOk_zip {a b : Addr} {vs us : List V} {ds es : List D} (h : SqL K v.G a vs) (h2 : SqL K v.G b us) (r : RepL K ct v.G v.m ds vs) (r2 : RepL K ct v.G v.m es us) : ItOk K ct (Itz K a b) v (zipD ds es) where
  go := fun i w l s hi => by
    obtain ⟨x, y, e1, e2, _⟩ := zipD_get hi
    obtain ⟨x1, e3, _⟩ := r.get e1
    obtain ⟨y1, e4, _⟩ := r2.get e2
    exact ⟨vs, us, x1, y1, s.sub.seq (l.g.seq h), s.sub.seq (l.g.seq h2), e3, e4⟩
  stop := fun i w l s hi => by
    have := hi
    simp only [zipD, List.length_zipWith] at this
    have hl := r.length
    have hl2 := r2.length
    exact ⟨vs, us, s.sub.seq (l.g.seq h), s.sub.seq (l.g.seq h2), by omega⟩
  yld := fun i w z H' l s hi y => by
    obtain ⟨dx, dy, e1, e2, e5⟩ := zipD_get hi
    obtain ⟨x1, e3, rv⟩ := r.get e1
    obtain ⟨y1', e4, ru⟩ := r2.get e2
    obtain ⟨T, x0, y0, rfl, hT, rfl, y1, y2⟩ := y
    have z := y1 vs (s.sub.seq (l.g.seq h))
    rw [e3] at z
    cases z
    have z2 := y2 us (s.sub.seq (l.g.seq h2))
    rw [e4] at z2
    cases z2
    obtain ⟨l2, s2⟩ := new_ok (o := .tup [x1, y1']) s hT
    exact ⟨.tup [dx, dy], w.new T (.tup [x1, y1']), e5, rfl, l2, s2, rfl, .tup (SqT.of upd_same) (.cons (l2.rep (l.rep rv)) (.cons (l2.rep (l.rep ru)) .nil))⟩
theorem itOk_zipT {a b : Addr} {vs us : List V} {ds es : List D} (h : SqT K v.G a vs) (h2 : SqT K v.G b us) (r : RepL K ct v.G v.m ds vs) (r2 : RepL K ct v.G v.m es us) : ItOk K ct (RZ.ItzT K a b) v (zipD ds es) where
  go := fun i w l s hi => by
    obtain ⟨x, y, e1, e2, _⟩ := zipD_get hi
    obtain ⟨x1, e3, _⟩ := r.get e1
    obtain ⟨y1, e4, _⟩ := r2.get e2
    exact ⟨vs, us, x1, y1, sqt_mono s.sub (sqt_mono l.g h), sqt_mono s.sub (sqt_mono l.g h2), e3, e4⟩
  stop := fun i w l s hi => by
    have := hi
    simp only [zipD, List.length_zipWith] at this
    have hl := r.length
    have hl2 := r2.length
    exact ⟨vs, us, sqt_mono s.sub (sqt_mono l.g h), sqt_mono s.sub (sqt_mono l.g h2), by omega⟩
  yld := fun i w z H' l s hi y => by
    obtain ⟨dx, dy, e1, e2, e5⟩ := zipD_get hi
    obtain ⟨x1, e3, rv⟩ := r.get e1
    obtain ⟨y1', e4, ru⟩ := r2.get e2
    obtain ⟨T, x0, y0, rfl, hT, rfl, y1, y2⟩ := y
    have z := y1 vs (sqt_mono s.sub (sqt_mono l.g h))
    rw [e3] at z
    cases z
    have z2 := y2 us (sqt_mono s.sub (sqt_mono l.g h2))
    rw [e4] at z2
    cases z2
    obtain ⟨l2, s2⟩ := new_ok (o := .tup [x1, y1']) s hT
    exact ⟨.tup [dx, dy], w.new T (.tup [x1, y1']), e5, rfl, l2, s2, rfl, .tup (SqT.of upd_same) (.cons (l2.rep (l.rep rv)) (.cons (l2.rep (l.rep ru)) .nil))⟩
theorem itOk_rngC {lo : Int} {n : Nat} : ItOk K ct (Itc (lo + (n : Int) - 1) (-1) n) v (rngD lo n).reverse where
  go := fun i w l s hi => by show i < n; simpa [rngD] using hi
  stop := fun i w l s hi => by show n ≤ i; simpa [rngD] using hi
  yld := fun i w z H' l s hi y => by
    obtain ⟨rfl, rfl⟩ := y
    have hi' : i < n := by simpa [rngD] using hi
    refine ⟨_, w, ?_, rfl, .refl, s, rfl, .int _⟩
    rw [List.getElem?_reverse (by simpa [rngD] using hi'), ints_get (by simp only [rngD, List.length_map, List.length_range]; omega)]
    congr 2
    simp only [rngD, List.length_map, List.length_range]
    omega
def rngS (lo c : Int) (n : Nat) : List D := (List.range n).map fun (i : Nat) => .int (lo + (i : Int) * c)
theorem rngS_get {lo c : Int} {n i : Nat} (h : i < n) : (rngS lo c n)[i]? = some (.int (lo + (i : Int) * c)) := by simp [rngS, h]
theorem itOk_rngS {lo c : Int} {n : Nat} : ItOk K ct (Itc lo c n) v (rngS lo c n) where
  go := fun i w l s hi => by show i < n; simpa [rngS] using hi
  stop := fun i w l s hi => by show n ≤ i; simpa [rngS] using hi
  yld := fun i w z H' l s hi y => by
    obtain ⟨rfl, rfl⟩ := y
    exact ⟨_, w, rngS_get (by simpa [rngS] using hi), rfl, .refl, s, rfl, .int _⟩
end
def iEnumD (a : As) : As := fun δ s => (a δ s).bind fun ds s1 => match ds with
  | [.lst xs] => .ok (enumD xs) s1
  | _ => .stk
def iRevD (a : As) : As := fun δ s => (a δ s).bind fun ds s1 => match ds with
  | [.lst xs] => .ok xs.reverse s1
  | _ => .stk
def iZipD (a : As) : As := fun δ s => (a δ s).bind fun ds s1 => match ds with
  | [.lst xs, .lst ys] => .ok (zipD xs ys) s1
  | [.tup xs, .tup ys] => .ok (zipD xs ys) s1
  | _ => .stk
def iRevR2 (a b : E) : As := fun δ s => (a δ s).bind fun x s1 => (b δ s1).bind fun y s2 => match x, y with
  | .int i, .int j => if -(2 ^ 62) ≤ i ∧ i < 2 ^ 62 ∧ -(2 ^ 62) ≤ j ∧ j < 2 ^ 62 then .ok (rngD i (j - i).toNat).reverse s2 else .stk
  | _, _ => .stk
def rng3Ok (i j c : Int) : Prop := c ≠ 0 ∧ c.natAbs < 1073741824 ∧ Builtin.Range.small i j c = true ∧ 0 ≤ Builtin.Range.rangeSize i j c
instance (i j c : Int) : Decidable (rng3Ok i j c) := inferInstanceAs (Decidable (c ≠ 0 ∧ c.natAbs < 1073741824 ∧ Builtin.Range.small i j c = true ∧ 0 ≤ Builtin.Range.rangeSize i j c))
def iRange3 (a : As) : As := fun δ s => (a δ s).bind fun ds s1 => match ds with
  | [.int i, .int j, .int c] => if rng3Ok i j c then .ok (rngS i c (Builtin.Range.rangeSize i j c).toNat) s1 else .stk
  | _ => .stk
section
variable {X : Cx} {C : Cc} {tg : Expr}
theorem si_enum {e : Expr} {f : As} {p pos tpos : Pos} {elts : List Expr} {kk : Nat} (hg : Gl X "enumerate") (hm : X.mg "enumerate" = none) (ha : SA X C [e] f) (hs : starEach [e] X.env = [(false, eval e X.env)] := by rfl) :
    SI X C (.Tuple elts kk tpos) (.Call (.Name "enumerate" p) [e] [] pos) (iEnumD f) :=
  pi_weak (pi_enum hg hm ha hs) fun σ H R ⟨δ, v, re, eH, h⟩ => ⟨δ, v, re, eH, on_mono (on_bind h) fun ds vs v1 l1 s1 r1 h1 => by
    split at h1
    · cases r1 with
      | cons r2 r3 =>
        cases r3
        cases r2 with
        | @lst _ _ a us _ pp q => exact ⟨a, us, rfl, s1.sub.seq pp, on_self s1 h1 (itOk_enum pp q)⟩
    · exact h1.elim⟩
theorem si_rev {e : Expr} {f : As} {p pos : Pos} (hg : Gl X "reversed") (hm : X.mg "reversed" = none) (ha : SA X C [e] f) (hs : starEach [e] X.env = [(false, eval e X.env)] := by rfl) : SI X C tg (.Call (.Name "reversed" p) [e] [] pos) (iRevD f) :=
  pi_weak (pi_reversed hg hm ha hs) fun σ H R ⟨δ, v, re, eH, h⟩ => ⟨δ, v, re, eH, on_mono (on_bind h) fun ds vs v1 l1 s1 r1 h1 => by
    split at h1
    · cases r1 with
      | cons r2 r3 =>
        cases r3
        cases r2 with
        | @lst _ _ a us _ pp q => exact ⟨a, us, rfl, s1.sub.seq pp, on_self s1 h1 (itOk_rev pp q)⟩
    · exact h1.elim⟩
theorem si_zip {e e2 : Expr} {f : As} {p pos tpos : Pos} {elts : List Expr} {kk : Nat} (hg : Gl X "zip") (hm : X.mg "zip" = none) (ha : SA X C [e, e2] f)
    (hs : starEach [e, e2] X.env = (false, eval e X.env) :: starEach [e2] X.env := by rfl) (hpl : (backTo pos (starEach [e2] X.env)).any (·.1) = false := by rfl) :
    SI X C (.Tuple elts kk tpos) (.Call (.Name "zip" p) [e, e2] [] pos) (iZipD f) :=
  pi_weak (RZ.pi_zipA hg hm ha hs hpl) fun σ H R ⟨δ, v, re, eH, h⟩ => ⟨δ, v, re, eH, on_mono (on_bind h) fun ds vs v1 l1 s1 r1 h1 => by
    split at h1
    · cases r1 with
      | cons r2 r3 =>
        cases r3 with
        | cons r3 r4 =>
          cases r4
          cases r2 with
          | @lst _ _ a us _ pp q =>
            cases r3 with
            | @lst _ _ b ws _ pp2 q2 => exact ⟨a, b, us, ws, rfl, .inl ⟨s1.sub.seq pp, s1.sub.seq pp2, on_self s1 h1 (itOk_zip pp pp2 q q2)⟩⟩
    · cases r1 with
      | cons r2 r3 =>
        cases r3 with
        | cons r3 r4 =>
          cases r4
          cases r2 with
          | @tup _ _ a us _ pp q =>
            cases r3 with
            | @tup _ _ b ws _ pp2 q2 => exact ⟨a, b, us, ws, rfl, .inr ⟨sqt_mono s1.sub pp, sqt_mono s1.sub pp2, on_self s1 h1 (itOk_zipT pp pp2 q q2)⟩⟩
    · exact h1.elim⟩
theorem si_revR2 {a b : Expr} {fa fb : E} {p p2 pos pos2 : Pos} (hg : Gl X "reversed") (hm : X.mg "reversed" = none) (hgr : Gl X "range") (hmr : X.mg "range" = none) (ha : SE X C a fa) (hb : SE X C b fb)
    (hs : starEach [.Call (.Name "range" p2) [a, b] [] pos2] X.env = (false, eval (.Call (.Name "range" p2) [a, b] [] pos2) X.env) :: starEach [] X.env := by rfl)
    (hs1 : starEach [a, b] X.env = (false, eval a X.env) :: starEach [b] X.env := by rfl) (hs2 : starEach [b] X.env = (false, eval b X.env) :: starEach [] X.env := by rfl) (hp : (backTo pos2 (starEach [b] X.env)).any (·.1) = false := by rfl) :
    SI X C tg (.Call (.Name "reversed" p) [.Call (.Name "range" p2) [a, b] [] pos2] [] pos) (iRevR2 fa fb) :=
  pi_weak (pi_revR hg hm (prg_2 hgr hmr ha hb hs1 hs2 hp) hs) fun σ H R ⟨δ, v, re, eH, h⟩ => ⟨δ, v, re, eH, on_mono (on_bind h) fun d x v1 l1 s1 r1 h1 => ⟨δ, v1, re.step l1 s1, rfl, on_mono (on_bind h1) fun d2 x2 v2 l2 s2 r2 h2 => by
    cases r1 <;> cases r2 <;> first
      | exact h2.elim
      | (simp only at h2
         split at h2
         · rename_i hz
           exact ⟨_, _, rfl, rfl, hz.1, hz.2.1, hz.2.2.1, hz.2.2.2, on_self s2 h2 itOk_rngC⟩
         · exact h2.elim)⟩⟩
theorem si_range3 {a b c : Expr} {f : As} {p pos : Pos} (hg : Gl X "range") (hm : X.mg "range" = none) (ha : SA X C [a, b, c] f)
    (hs : starEach [a, b, c] X.env = (false, eval a X.env) :: starEach [b, c] X.env := by rfl) (hpl : (backTo pos (starEach [b, c] X.env)).any (·.1) = false := by rfl) :
    SI X C tg (.Call (.Name "range" p) [a, b, c] [] pos) (iRange3 f) :=
  pi_weak (pi_range3 hg hm ha hs hpl) fun σ H R ⟨δ, v, re, eH, h⟩ => ⟨δ, v, re, eH, on_mono (on_bind h) fun ds vs v1 l1 s1 r1 h1 => by
    split at h1
    · rename_i i j c
      cases r1 with
      | cons r2 r3 =>
        cases r2
        cases r3 with
        | cons r4 r5 =>
          cases r4
          cases r5 with
          | cons r6 r7 =>
            cases r6
            cases r7
            split at h1
            · rename_i hz
              obtain ⟨z1, z2, z3, z4⟩ := hz
              exact ⟨_, _, _, _, rfl, ⟨z1, z2, z3, (Int.toNat_of_nonneg z4).symm⟩, on_self s1 h1 itOk_rngS⟩
            · exact h1.elim
    · exact h1.elim⟩
def eBits (f : E) : E := fun δ s => (f δ s).bind fun d s1 => match d with
  | .int i => .ok (.int (Builtin.Int.intBits i : Nat)) s1
  | _ => .stk
theorem se_bits {o : Expr} {f : E} {apos pos : Pos} (ho : SE X C o f) (hbase : attributeBase o "bit_length" X.env (eval o X.env) = eval o X.env := by rfl) (hline : (apos.endLine == pos.line) = true := by rfl) : SE X C (.Call (.Attribute o "bit_length" apos) [] [] pos) (eBits f) :=
  pe_weak (pe_bits ho hbase hline) fun σ H Q ⟨δ, v, re, eH, h⟩ => ⟨δ, v, re, eH, on_mono (on_bind h) fun d x v1 l1 s1 r1 h1 => by
    cases r1 with
    | int i => exact ⟨i, rfl, on_self s1 h1 (.int _)⟩
    | _ => exact h1.elim⟩
end
/-! ### reckoning -/
theorem runG_rt {N : Nat} {body : S} {ds : List D} {s s' : Sto} {d : D} (h : body (ds.map some ++ List.replicate (N - ds.length) none) s = .rt d s') : runG N body ds s = .ok d s' := by unfold runG; rw [h]
theorem runG_nx {N : Nat} {body : S} {ds : List D} {s s' : Sto} {δ : Sl} (h : body (ds.map some ++ List.replicate (N - ds.length) none) s = .nx δ s') : runG N body ds s = .ok .non s' := by unfold runG; rw [h]
theorem runG_exc {N : Nat} {body : S} {ds : List D} {s s' : Sto} {e : Ex} {δ : Sl} (h : body (ds.map some ++ List.replicate (N - ds.length) none) s = .exc e δ s') : runG N body ds s = .exc e s' := by unfold runG; rw [h]
/-- a loop whose turns go on -/
theorem forD_inv {p : Pt} {body : S} (Inv : Nat → Sl → Sto → Prop) : ∀ (items : List D) (k : Nat) (δ : Sl) (s : Sto), Inv k δ s →
    (∀ i d δ s, items[i]? = some d → Inv (k + i) δ s → ∃ δ1, bindP p d δ = some δ1 ∧ ∃ δ2 s2, body δ1 s = .nx δ2 s2 ∧ Inv (k + i + 1) δ2 s2) → ∃ δ' s', forD p body items δ s = .nx δ' s' ∧ Inv (k + items.length) δ' s'
  | [], k, δ, s, h0, _ => ⟨δ, s, rfl, h0⟩
  | d :: ds, k, δ, s, h0, hs => by
    obtain ⟨δ1, e1, δ2, s2, e2, h2⟩ := hs 0 d δ s rfl h0
    obtain ⟨δ', s', e3, h3⟩ := forD_inv Inv ds (k + 1) δ2 s2 h2 fun i d δ s hd hi => by
      have z := hs (i + 1) d δ s (by simpa using hd) (by rw [show k + (i + 1) = k + 1 + i by omega]; exact hi)
      rw [show k + (i + 1) + 1 = k + 1 + i + 1 by omega] at z
      exact z
    refine ⟨δ', s', ?_, by rw [List.length_cons, show k + (ds.length + 1) = k + 1 + ds.length by omega]; exact h3⟩
    simp only [forD, e1, e2, e3]
theorem rngD_length (lo : Int) (n : Nat) : (rngD lo n).length = n := by simp [rngD]
theorem rngD_some {lo : Int} {n i : Nat} {d : D} (h : (rngD lo n)[i]? = some d) : i < n ∧ d = .int (lo + (i : Int)) := by
  have hi : i < n := by
    have := (List.getElem?_eq_some_iff.mp h).1
    simpa [rngD] using this
  rw [ints_get hi] at h
  exact ⟨hi, (Option.some.inj h).symm⟩
theorem forR {p : Pt} {body : S} {lo : Int} {n : Nat} {δ : Sl} {s : Sto} (Inv : Nat → Sl → Sto → Prop) (h0 : Inv 0 δ s)
    (hs : ∀ i δ s, i < n → Inv i δ s → ∃ δ1, bindP p (.int (lo + (i : Int))) δ = some δ1 ∧ ∃ δ2 s2, body δ1 s = .nx δ2 s2 ∧ Inv (i + 1) δ2 s2) : ∃ δ' s', forD p body (rngD lo n) δ s = .nx δ' s' ∧ Inv n δ' s' := by
  have z := forD_inv (p := p) (body := body) Inv (rngD lo n) 0 δ s h0 fun i d δ s hd hi => by
    obtain ⟨h1, h2⟩ := rngD_some hd
    subst h2
    rw [Nat.zero_add] at hi ⊢
    exact hs i δ s h1 hi
  rw [Nat.zero_add, rngD_length] at z
  exact z
theorem whileK {c : T} {body : S} (Inv : Nat → Sl → Sto → Prop)
    (hs : ∀ k δ s, Inv k δ s → c δ s = .ok false s ∨ (c δ s = .ok true s ∧ ∃ δ2 s2, body δ s = .nx δ2 s2 ∧ ∃ k', k' < k ∧ Inv k' δ2 s2)) : ∀ (n k : Nat) (δ : Sl) (s : Sto), Inv k δ s → k < n → ∃ δ' s' k', whileD c body n δ s = .nx δ' s' ∧ Inv k' δ' s' ∧ c δ' s' = .ok false s'
  | 0, k, δ, s, _, h => by omega
  | n + 1, k, δ, s, hi, h => by
    rcases hs k δ s hi with hc | ⟨hc, δ2, s2, hb, k2, hk, hi2⟩
    · exact ⟨δ, s, k, by simp only [whileD, hc], hi, hc⟩
    · obtain ⟨δ', s', k', e, h2⟩ := whileK Inv hs n k2 δ2 s2 hi2 (by omega)
      exact ⟨δ', s', k', by simp only [whileD, hc, hb, e], h2⟩
/-- turns of a comprehension that leave the store -/
theorem lcD_mapL {α : Type} {p : Pt} {c : T} {e : E} {δ : Sl} {s : Sto} (g f : α → D) : ∀ l : List α, (∀ a ∈ l, ∃ δ1, bindP p (g a) δ = some δ1 ∧ c δ1 s = .ok true s ∧ e δ1 s = .ok (f a) s) → lcD p c e δ (l.map g) s = .ok (l.map f) s
  | [], _ => rfl
  | x :: l, h => by
    obtain ⟨δ1, e1, e2, e3⟩ := h x (by simp)
    have ih := lcD_mapL (p := p) (c := c) (e := e) (δ := δ) (s := s) g f l fun k hk => h k (by simp [hk])
    simp only [List.map_cons, lcD, e1, e2, e3, ih]
theorem ixN_ofNat {n j : Nat} (h : j < n) : ixN n (j : Int) = some j := by
  unfold ixN
  rw [if_pos (by omega), if_pos (by omega)]
  simp
theorem atI_ofNat {α : Type} (xs : List α) {j : Nat} (h : j < xs.length) : atI xs (j : Int) = some xs[j] := by
  unfold atI
  rw [ixN_ofNat h]
  exact List.getElem?_eq_getElem h

/-! ### sizes of products -/
theorem bits_le {i : Int} {a : Nat} (h : i.natAbs < 2 ^ a) : Builtin.Int.intBits i ≤ a := by
  unfold Builtin.Int.intBits
  split
  · exact Nat.zero_le _
  · rename_i hz
    have hz' : i.natAbs ≠ 0 := by
      simp only [beq_iff_eq] at hz
      omega
    exact Nat.succ_le_of_lt ((Nat.log2_lt hz').mpr h)
theorem mul_fits {i j : Int} {a b : Nat} (ha : i.natAbs < 2 ^ a) (hb : j.natAbs < 2 ^ b) (h : a + b ≤ 134217728) : IntMulOk i j := mulx_ok ha hb h |>.ok
theorem mul_fitsL {i j : Int} (ha : i.natAbs < 2 ^ 64) : IntMulOk i j := .of_left (bits_le ha)
theorem mul_fitsR {i j : Int} (ha : j.natAbs < 2 ^ 64) : IntMulOk i j := .of_right (bits_le ha)
theorem log_lt {n a : Nat} (h : n < 2 ^ a) (h0 : 0 < a) : n.log2 < a := by
  by_cases hz : n = 0
  · subst hz
    simpa using h0
  · exact (Nat.log2_lt hz).mpr h

@[simp] theorem mulOk_m1 (j : Int) : IntMulOk (-1) j := mul_fitsL (by decide)
@[simp] theorem mulOk_1 (j : Int) : IntMulOk 1 j := mul_fitsL (by decide)
@[simp] theorem mulOk_2 (j : Int) : IntMulOk 2 j := mul_fitsL (by decide)
@[simp] theorem mulOk_3 (j : Int) : IntMulOk 3 j := mul_fitsL (by decide)
@[simp] theorem mulOk_r2 (j : Int) : IntMulOk j 2 := mul_fitsR (by decide)
@[simp] theorem mulOk_r1000 (j : Int) : IntMulOk j 1000 := mul_fitsR (by decide)
@[simp] theorem mulOk_r1000003 (j : Int) : IntMulOk j 1000003 := mul_fitsR (by decide)
theorem log_small {n : Nat} (h : n < 2 ^ 64) : n.log2 < 9000 := Nat.lt_of_lt_of_le (log_lt h (by decide)) (by decide)
/-! ### unfolding -/
def rngOk (j : Int) : Prop := -(2 ^ 62) ≤ j ∧ j < 2 ^ 62
instance (j : Int) : Decidable (rngOk j) := inferInstanceAs (Decidable (-(2 ^ 62) ≤ j ∧ j < 2 ^ 62))
theorem rngOk_of {j : Int} (h1 : -1000000000 ≤ j) (h2 : j ≤ 1000000000) : rngOk j := by
  unfold rngOk
  omega
theorem rngOk_nat {j : Nat} (h : j ≤ 1000000000) : rngOk (j : Int) := rngOk_of (by omega) (by omega)
@[simp] theorem rngOk_0 : rngOk 0 := rngOk_of (by omega) (by omega)
@[simp] theorem rngOk_1 : rngOk 1 := rngOk_of (by omega) (by omega)
def divOk (j : Int) : Prop := 0 < j ∧ j.natAbs.log2 < 9000
instance (j : Int) : Decidable (divOk j) := inferInstanceAs (Decidable (0 < j ∧ j.natAbs.log2 < 9000))
theorem divOk_of {j : Int} {a : Nat} (h : 0 < j) (h2 : j.natAbs < 2 ^ a) (h3 : a ≤ 8999) : divOk j := ⟨h, by
  by_cases h0 : 0 < a
  · exact Nat.lt_of_lt_of_le (log_lt h2 h0) (by omega)
  · have e : a = 0 := by omega
    subst e
    have : (2 : Nat) ^ 0 = 1 := rfl
    omega⟩
theorem divOk_small {j : Int} (h : 0 < j) (h2 : j < 10 ^ 18) : divOk j := divOk_of (a := 64) h (by
  have : (10 : Int) ^ 18 < ((2 ^ 64 : Nat) : Int) := by decide
  omega) (by decide)
@[simp] theorem divOk_1 : divOk 1 := divOk_small (by decide) (by decide)
@[simp] theorem divOk_2 : divOk 2 := divOk_small (by decide) (by decide)
@[simp] theorem divOk_3 : divOk 3 := divOk_small (by decide) (by decide)
@[simp] theorem divOk_4 : divOk 4 := divOk_small (by decide) (by decide)
@[simp] theorem divOk_5 : divOk 5 := divOk_small (by decide) (by decide)
@[simp] theorem divOk_6 : divOk 6 := divOk_small (by decide) (by decide)
@[simp] theorem divOk_7 : divOk 7 := divOk_small (by decide) (by decide)
@[simp] theorem divOk_8 : divOk 8 := divOk_small (by decide) (by decide)
@[simp] theorem divOk_9 : divOk 9 := divOk_small (by decide) (by decide)
@[simp] theorem divOk_10 : divOk 10 := divOk_small (by decide) (by decide)
@[simp] theorem divOk_11 : divOk 11 := divOk_small (by decide) (by decide)
@[simp] theorem divOk_12 : divOk 12 := divOk_small (by decide) (by decide)
@[simp] theorem divOk_24 : divOk 24 := divOk_small (by decide) (by decide)
@[simp] theorem divOk_41 : divOk 41 := divOk_small (by decide) (by decide)
@[simp] theorem divOk_48 : divOk 48 := divOk_small (by decide) (by decide)
@[simp] theorem divOk_60 : divOk 60 := divOk_small (by decide) (by decide)
@[simp] theorem divOk_64 : divOk 64 := divOk_small (by decide) (by decide)
@[simp] theorem divOk_100 : divOk 100 := divOk_small (by decide) (by decide)
@[simp] theorem divOk_1000 : divOk 1000 := divOk_small (by decide) (by decide)
def powOk (i j : Int) : Prop := 0 ≤ j ∧ (Builtin.Int.intBits i : Int) * j ≤ 2 ^ 27
instance (i j : Int) : Decidable (powOk i j) := inferInstanceAs (Decidable (0 ≤ j ∧ (Builtin.Int.intBits i : Int) * j ≤ 2 ^ 27))
theorem powOk_of {i j : Int} {a : Nat} (hi : i.natAbs < 2 ^ a) (h0 : 0 ≤ j) (h : (a : Int) * j ≤ 134217728) : powOk i j := ⟨h0, by
  have h1 := bits_le hi
  have h2 : (Builtin.Int.intBits i : Int) * j ≤ (a : Int) * j := Int.mul_le_mul_of_nonneg_right (by omega) h0
  omega⟩
@[simp] theorem powOk_10 {j : Int} (h0 : 0 ≤ j) (h : j ≤ 1000) : powOk 10 j := powOk_of (a := 4) (by decide) h0 (by omega)
@[simp] theorem powOk_2 {j : Int} (h0 : 0 ≤ j) (h : j ≤ 1000000) : powOk 2 j := powOk_of (a := 2) (by decide) h0 (by omega)
@[simp] theorem powOk_1e60 {j : Int} (h0 : 0 ≤ j) (h : j ≤ 1000) : powOk 1000000000000000000000000000000000000000000000000000000000000 j := powOk_of (a := 200) (by decide) h0 (by omega)

@[simp] theorem v_bind_ok {α β : Type} (a : α) (s : Sto) (k : α → Sto → R β) : (R.ok a s).bind k = k a s := id rfl
@[simp] theorem v_bind_exc {α β : Type} (e : Ex) (s : Sto) (k : α → Sto → R β) : (R.exc e s).bind k = .exc e s := id rfl
@[simp] theorem v_bind_stk {α β : Type} (k : α → Sto → R β) : (R.stk : R α).bind k = .stk := id rfl
@[simp] theorem v_ofO_some {α : Type} (a : α) (s : Sto) : R.ofO (some a) s = .ok a s := id rfl
@[simp] theorem v_ofO_none {α : Type} (s : Sto) : R.ofO (none : Option α) s = .stk := id rfl
@[simp] theorem v_sBind_ok {α : Type} (a : α) (s : Sto) (δ : Sl) (k : α → Sto → RS) : sBind (.ok a s) δ k = k a s := id rfl
@[simp] theorem v_sBind_exc {α : Type} (e : Ex) (s : Sto) (δ : Sl) (k : α → Sto → RS) : sBind (.exc e s : R α) δ k = .exc e δ s := id rfl
@[simp] theorem v_sBind_stk {α : Type} (δ : Sl) (k : α → Sto → RS) : sBind (.stk : R α) δ k = .stk := id rfl
@[simp] theorem v_eV (i : Nat) (δ : Sl) (s : Sto) : eV i δ s = (match δ[i]? with | some (some d) => .ok d s | _ => .stk) := id rfl
@[simp] theorem v_eC (d : D) (δ : Sl) (s : Sto) : eC d δ s = .ok d s := id rfl
@[simp] theorem v_eBin (g : B2) (a b : E) (δ : Sl) (s : Sto) : eBin g a b δ s = (a δ s).bind fun x s1 => (b δ s1).bind fun y s2 => R.ofO (g (rsv s2 x) (rsv s2 y)) s2 := id rfl
@[simp] theorem v_eUn (g : B1) (a : E) (δ : Sl) (s : Sto) : eUn g a δ s = (a δ s).bind fun x s1 => R.ofO (g (rsv s1 x)) s1 := id rfl
@[simp] theorem v_eFn (g : BA) (a : As) (δ : Sl) (s : Sto) : eFn g a δ s = (a δ s).bind fun x s1 => R.ofO (g (x.map (rsv s1))) s1 := id rfl
@[simp] theorem v_eCall (F : List D → Sto → R D) (a : As) (δ : Sl) (s : Sto) : eCall F a δ s = (a δ s).bind F := id rfl
@[simp] theorem v_tV (f : E) (δ : Sl) (s : Sto) : tV f δ s = (f δ s).bind fun d s1 => match d with | .bl b => .ok b s1 | _ => .stk := id rfl
@[simp] theorem v_tNt (f : T) (δ : Sl) (s : Sto) : tNt f δ s = (f δ s).bind fun b s1 => .ok (!b) s1 := id rfl
@[simp] theorem v_tAn (f g : T) (δ : Sl) (s : Sto) : tAn f g δ s = (f δ s).bind fun b s1 => if b = true then g δ s1 else .ok false s1 := id rfl
@[simp] theorem v_tOrr (f g : T) (δ : Sl) (s : Sto) : tOrr f g δ s = (f δ s).bind fun b s1 => if b = true then .ok true s1 else g δ s1 := id rfl
@[simp] theorem v_tTrue (δ : Sl) (s : Sto) : tTrue δ s = .ok true s := id rfl
@[simp] theorem v_eAn (a b : E) (δ : Sl) (s : Sto) : eAn a b δ s = (a δ s).bind fun x s1 => match x with | .bl true => b δ s1 | .bl false => .ok (.bl false) s1 | _ => .stk := id rfl
@[simp] theorem v_eOr (a b : E) (δ : Sl) (s : Sto) : eOr a b δ s = (a δ s).bind fun x s1 => match x with | .bl true => .ok (.bl true) s1 | .bl false => b δ s1 | _ => .stk := id rfl
@[simp] theorem v_eNt (a : E) (δ : Sl) (s : Sto) : eNt a δ s = (a δ s).bind fun x s1 => match x with | .bl k => .ok (.bl !k) s1 | _ => .stk := id rfl
@[simp] theorem v_eIf (t : T) (a b : E) (δ : Sl) (s : Sto) : eIf t a b δ s = (t δ s).bind fun k s1 => if k = true then a δ s1 else b δ s1 := id rfl
@[simp] theorem v_aNil (δ : Sl) (s : Sto) : aNil δ s = .ok [] s := id rfl
@[simp] theorem v_aCons (f : E) (r : As) (δ : Sl) (s : Sto) : aCons f r δ s = (f δ s).bind fun x s1 => (r δ s1).bind fun xs s2 => .ok (x :: xs) s2 := id rfl
@[simp] theorem v_eTup (r : As) (δ : Sl) (s : Sto) : eTup r δ s = (r δ s).bind fun xs s1 => if xs.length ≤ sizeLine then .ok (.tup xs) s1 else .stk := id rfl
@[simp] theorem v_eFz (f : Fr) (δ : Sl) (s : Sto) : eFz f δ s = (f δ s).bind fun xs s1 => .ok (.lst xs) s1 := id rfl
@[simp] theorem v_eNw (f : Fr) (δ : Sl) (s : Sto) : eNw f δ s = (f δ s).bind fun xs s1 => .ok (.ob s1.length) (s1 ++ [.lst xs]) := id rfl
@[simp] theorem v_fLst (r : As) (δ : Sl) (s : Sto) : fLst r δ s = (r δ s).bind fun xs s1 => if xs.length ≤ sizeLine then .ok xs s1 else .stk := id rfl
@[simp] theorem v_fList (f : E) (δ : Sl) (s : Sto) : fList f δ s = (f δ s).bind fun d s1 => match rsv s1 d with | .lst xs => .ok xs s1 | .tup xs => .ok xs s1 | .str x => if x.length ≤ sizeLine then .ok (signs x) s1 else .stk | _ => .stk := id rfl
@[simp] theorem v_sNx (δ : Sl) (s : Sto) : sNx δ s = .nx δ s := id rfl
@[simp] theorem v_sBk (δ : Sl) (s : Sto) : sBk δ s = .bk δ s := id rfl
@[simp] theorem v_sCt (δ : Sl) (s : Sto) : sCt δ s = .ct δ s := id rfl
@[simp] theorem v_sSeq (f g : S) (δ : Sl) (s : Sto) : sSeq f g δ s = (match f δ s with | .nx δ' s' => g δ' s' | r => r) := id rfl
@[simp] theorem v_sRet (f : E) (δ : Sl) (s : Sto) : sRet f δ s = sBind (f δ s) δ fun d s1 => .rt d s1 := id rfl
@[simp] theorem v_sRetN (δ : Sl) (s : Sto) : sRetN δ s = .rt .non s := id rfl
@[simp] theorem v_sIf (t : T) (a b : S) (δ : Sl) (s : Sto) : sIf t a b δ s = sBind (t δ s) δ fun k s1 => if k = true then a δ s1 else b δ s1 := id rfl
@[simp] theorem v_sSet (i : Nat) (f : E) (δ : Sl) (s : Sto) : sSet i f δ s = sBind (f δ s) δ fun d s1 => .nx (δ.set i (some d)) s1 := id rfl
@[simp] theorem v_sAsg (p : Pt) (f : E) (δ : Sl) (s : Sto) : sAsg p f δ s = sBind (f δ s) δ fun d s1 => sBindP p d δ s1 := id rfl
@[simp] theorem v_sFor (it : As) (p : Pt) (b : S) (δ : Sl) (s : Sto) : sFor it p b δ s = sBind (it δ s) δ fun items s1 => forD p b items δ s1 := id rfl
@[simp] theorem v_sAug (i : Nat) (g : B2) (f : E) (δ : Sl) (s : Sto) : sAug i g f δ s = (match δ[i]? with | some (some x) => sBind (f δ s) δ fun y s1 => (match g (rsv s1 x) (rsv s1 y) with | some z => .nx (δ.set i (some z)) s1 | none => .stk) | _ => .stk) := id rfl
@[simp] theorem v_sDrop (f : E) (δ : Sl) (s : Sto) : sDrop f δ s = sBind (f δ s) δ fun _ s1 => .nx δ s1 := id rfl
@[simp] theorem v_sRaise (cn : String) (δ : Sl) (s : Sto) : sRaise cn δ s = .exc ⟨cn, []⟩ δ s := id rfl
@[simp] theorem v_sFrz (i : Nat) (f : S) (δ : Sl) (s : Sto) : sFrz i f δ s = (match δ[i]? with | some (some d) => f (δ.set i (some (frzD s d).1)) (frzD s d).2 | _ => f δ s) := id rfl
@[simp] theorem v_eFrz (f : E) (δ : Sl) (s : Sto) : eFrz f δ s = (f δ s).bind fun d s1 => .ok (frzD s1 d).1 (frzD s1 d).2 := id rfl
@[simp] theorem v_sSetIx (o b e : E) (δ : Sl) (s : Sto) : sSetIx o b e δ s = sBind (e δ s) δ fun d s1 => sBind (o δ s1) δ fun x s2 => sBind (b δ s2) δ fun z s3 => match lsO s3 x, z with
  | some xs, .int k => (match ixN xs.length k with
    | some j => .nx δ (stO s3 x (xs.set j d))
    | none => .stk)
  | _, _ => .stk := id rfl
@[simp] theorem v_eApp (o a : E) (δ : Sl) (s : Sto) : eApp o a δ s = (o δ s).bind fun x s1 => if (lsO s1 x).isSome = true then ((a δ s1).bind fun y s2 => match lsO s2 x with
  | some xs => if xs.length < sizeLine then .ok .non (stO s2 x (xs ++ [y])) else .stk
  | none => .stk) else .stk := id rfl
@[simp] theorem v_ePopAt (o a : E) (δ : Sl) (s : Sto) : ePopAt o a δ s = (o δ s).bind fun x s1 => if (lsO s1 x).isSome = true then ((a δ s1).bind fun y s2 => match lsO s2 x, y with
  | some xs, .int k => if -(2 ^ 63) ≤ k ∧ k < 2 ^ 63 then (match seqIndex? k xs.length with
    | some j => (match xs[j]? with
      | some d => .ok d (stO s2 x (xs.eraseIdx j))
      | none => .stk)
    | none => .stk) else .stk
  | _, _ => .stk) else .stk := id rfl
@[simp] theorem v_nm (i : Nat) (d : D) (δ : Sl) : bindP (.nm i) d δ = some (δ.set i (some d)) := by simp [bindP]
@[simp] theorem v_tp (ps : List Pt) (ds : List D) (δ : Sl) : bindP (.tp ps) (.tup ds) δ = bindPs ps ds δ := by simp [bindP]
@[simp] theorem v_tpl (ps : List Pt) (ds : List D) (δ : Sl) : bindP (.tp ps) (.lst ds) δ = bindPs ps ds δ := by simp [bindP]
@[simp] theorem v_ps0 (δ : Sl) : bindPs [] [] δ = some δ := by simp [bindPs]
@[simp] theorem v_ps1 (p : Pt) (ps : List Pt) (d : D) (ds : List D) (δ : Sl) : bindPs (p :: ps) (d :: ds) δ = (match bindP p d δ with | some δ' => bindPs ps ds δ' | none => none) := by first | (simp only [bindPs]; done) | (simp only [bindPs] <;> rfl)
@[simp] theorem v_sBindP (p : Pt) (d : D) (δ : Sl) (s : Sto) : sBindP p d δ s = (match bindP p d δ with | some δ' => .nx δ' s | none => .stk) := id rfl
@[simp] theorem v_iRange1 (a : As) (δ : Sl) (s : Sto) : iRange1 a δ s = (a δ s).bind fun ds s1 => match ds with | [.int j] => if rngOk j then .ok (rngD 0 j.toNat) s1 else .stk | _ => .stk := id rfl
@[simp] theorem v_iRange2 (a : As) (δ : Sl) (s : Sto) : iRange2 a δ s = (a δ s).bind fun ds s1 => match ds with | [.int i, .int j] => if rngOk i ∧ rngOk j then .ok (rngD i (j - i).toNat) s1 else .stk | _ => .stk := by
  unfold iRange2 rngOk
  congr 1
  funext ds s1
  split <;> simp only [and_assoc]
@[simp] theorem v_iRevR2 (a b : E) (δ : Sl) (s : Sto) : iRevR2 a b δ s = (a δ s).bind fun x s1 => (b δ s1).bind fun y s2 => match x, y with | .int i, .int j => if rngOk i ∧ rngOk j then .ok (rngD i (j - i).toNat).reverse s2 else .stk | _, _ => .stk := by
  unfold iRevR2 rngOk
  congr 1
  funext x s1
  congr 1
  funext y s2
  split <;> simp only [and_assoc]
@[simp] theorem v_iSeq (f : E) (δ : Sl) (s : Sto) : iSeq f δ s = (f δ s).bind fun d s1 => R.ofO (seqOf d) s1 := id rfl
@[simp] theorem v_seqL (xs : List D) : seqOf (.lst xs) = some xs := id rfl
@[simp] theorem v_seqT (xs : List D) : seqOf (.tup xs) = some xs := id rfl
@[simp] theorem v_seqS (x : Str) : seqOf (.str x) = some (signs x) := id rfl
@[simp] theorem v_iEnumD (a : As) (δ : Sl) (s : Sto) : iEnumD a δ s = (a δ s).bind fun ds s1 => match ds with | [.lst xs] => .ok (enumD xs) s1 | _ => .stk := id rfl
@[simp] theorem v_iRevD (a : As) (δ : Sl) (s : Sto) : iRevD a δ s = (a δ s).bind fun ds s1 => match ds with | [.lst xs] => .ok xs.reverse s1 | _ => .stk := id rfl
@[simp] theorem v_iZipD (a : As) (δ : Sl) (s : Sto) : iZipD a δ s = (a δ s).bind fun ds s1 => match ds with | [.lst xs, .lst ys] => .ok (zipD xs ys) s1 | [.tup xs, .tup ys] => .ok (zipD xs ys) s1 | _ => .stk := id rfl
@[simp] theorem v_eSl (a : E) (lo hi : Os) (δ : Sl) (s : Sto) : eSl a lo hi δ s = (a δ s).bind fun x s1 => (lo δ s1).bind fun l s2 => (hi δ s2).bind fun h s3 => R.ofO (gSl (rsv s3 x) l h) s3 := id rfl
@[simp] theorem v_oNone (δ : Sl) (s : Sto) : oNone δ s = .ok none s := id rfl
@[simp] theorem v_oSome (f : E) (δ : Sl) (s : Sto) : oSome f δ s = (f δ s).bind fun d s1 => match d with | .int i => .ok (some i) s1 | _ => .stk := id rfl
@[simp] theorem v_fLc (it : As) (vs : List Nat) (p : Pt) (c : T) (e : E) (δ : Sl) (s : Sto) : fLc it vs p c e δ s = (it δ s).bind fun items s1 => (lcD p c e (wipeD δ vs) items s1).bind fun xs s2 => if xs.length ≤ sizeLine then .ok xs s2 else .stk := id rfl
@[simp] theorem v_eChain (g g' : B2) (a b c : E) (δ : Sl) (s : Sto) : eChain g g' a b c δ s = (a δ s).bind fun x s1 => (b δ s1).bind fun y s2 => (R.ofO (g (rsv s2 x) (rsv s2 y)) s2).bind fun z s3 => match z with | .bl true => (c δ s3).bind fun w s4 => R.ofO (g' (rsv s4 y) (rsv s4 w)) s4 | .bl false => .ok (.bl false) s3 | _ => .stk := id rfl
@[simp] theorem v_eM1 (g : D → List D → Option D) (o a : E) (δ : Sl) (s : Sto) : eM1 g o a δ s = (o δ s).bind fun x s1 => if isStr x then (a δ s1).bind fun y s2 => R.ofO (g x [rsv s2 y]) s2 else .stk := id rfl
@[simp] theorem v_isStr (x : Str) : isStr (.str x) = true := id rfl
@[simp] theorem v_eBits (f : E) (δ : Sl) (s : Sto) : eBits f δ s = (f δ s).bind fun d s1 => match d with
  | .int i => .ok (.int (Builtin.Int.intBits i : Nat)) s1
  | _ => .stk := id rfl
@[simp] theorem r_non (s : Sto) : rsv s .non = .non := id rfl
@[simp] theorem r_bl (s : Sto) (b : Bool) : rsv s (.bl b) = .bl b := id rfl
@[simp] theorem r_int (s : Sto) (b : Int) : rsv s (.int b) = .int b := id rfl
@[simp] theorem r_str (s : Sto) (b : Str) : rsv s (.str b) = .str b := id rfl
@[simp] theorem r_tup (s : Sto) (b : List D) : rsv s (.tup b) = .tup b := id rfl
@[simp] theorem r_lst (s : Sto) (b : List D) : rsv s (.lst b) = .lst b := id rfl
theorem r_ob {s : Sto} {i : Nat} {xs : List D} (h : s[i]? = some (.lst xs)) : rsv s (.ob i) = .lst xs := by unfold rsv; simp only [h]
theorem lsO_ob {s : Sto} {i : Nat} {xs : List D} (h : s[i]? = some (.lst xs)) : lsO s (.ob i) = some xs := by unfold lsO; simp only [h]
theorem frz_ob {s : Sto} {i : Nat} {xs : List D} (h : s[i]? = some (.lst xs)) : frzD s (.ob i) = (.lst xs, s.set i .gone) := by unfold frzD; simp only [h]
@[simp] theorem stO_ob (s : Sto) (i : Nat) (xs : List D) : stO s (.ob i) xs = s.set i (.lst xs) := id rfl
@[simp] theorem frz_lst (s : Sto) (xs : List D) : frzD s (.lst xs) = (.lst xs, s) := id rfl
@[simp] theorem frz_tup (s : Sto) (xs : List D) : frzD s (.tup xs) = (.tup xs, s) := id rfl
@[simp] theorem frz_int (s : Sto) (x : Int) : frzD s (.int x) = (.int x, s) := id rfl
@[simp] theorem frz_str (s : Sto) (x : Str) : frzD s (.str x) = (.str x, s) := id rfl
@[simp] theorem frz_bl (s : Sto) (x : Bool) : frzD s (.bl x) = (.bl x, s) := id rfl
@[simp] theorem frz_non (s : Sto) : frzD s .non = (.non, s) := id rfl
theorem get_set {s : Sto} {i : Nat} {o u : O} (h : s[i]? = some o) : (s.set i u)[i]? = some u := List.getElem?_set_self (List.getElem?_eq_some_iff.mp h).1
theorem set_same {s : Sto} {i : Nat} {o : O} (h : s[i]? = some o) : s.set i o = s := by
  apply List.ext_getElem?
  intro j
  by_cases z : i = j
  · subst z; rw [get_set h, h]
  · rw [List.getElem?_set_ne z]
@[simp] theorem get_last (s : Sto) (o : O) : (s ++ [o])[s.length]? = some o := by simp
@[simp] theorem v_add (i j : Int) : gAdd (.int i) (.int j) = some (.int (i + j)) := id rfl
@[simp] theorem v_addI (i j : Int) : gAddI (.int i) (.int j) = some (.int (i + j)) := id rfl
@[simp] theorem v_sub (i j : Int) : gSub (.int i) (.int j) = some (.int (i - j)) := id rfl
@[simp] theorem v_mul (i j : Int) : gMul (.int i) (.int j) = if IntMulOk i j then some (.int (i * j)) else none := id rfl
@[simp] theorem v_div (i j : Int) : gDiv (.int i) (.int j) = if divOk j then some (.int (i / j)) else none := id rfl
@[simp] theorem v_mod (i j : Int) : gMod (.int i) (.int j) = if 0 < j then some (.int (i % j)) else none := id rfl
@[simp] theorem v_pow (i j : Int) : gPow (.int i) (.int j) = if powOk i j then some (.int (i ^ j.toNat)) else none := id rfl
@[simp] theorem v_addL (xs ys : List D) : gAdd (.lst xs) (.lst ys) = if xs.length + ys.length ≤ sizeLine then some (.lst (xs ++ ys)) else none := id rfl
@[simp] theorem v_eqB (a b : Bool) : gEq (.bl a) (.bl b) = some (.bl (decide (a = b))) := id rfl
@[simp] theorem v_neB (a b : Bool) : gNe (.bl a) (.bl b) = some (.bl (!decide (a = b))) := id rfl
@[simp] theorem v_gListL (xs : List D) : gList [.lst xs] = some (.lst xs) := id rfl
@[simp] theorem v_gListT (xs : List D) : gList [.tup xs] = some (.lst xs) := id rfl
@[simp] theorem v_gListS (x : Str) : gList [.str x] = if x.length ≤ sizeLine then some (.lst (signs x)) else none := id rfl
@[simp] theorem v_gTupleL (xs : List D) : gTuple [.lst xs] = some (.tup xs) := id rfl
@[simp] theorem v_gTupleT (xs : List D) : gTuple [.tup xs] = some (.tup xs) := id rfl
@[simp] theorem v_gIntI (i : Int) : gInt [.int i] = some (.int i) := id rfl
@[simp] theorem v_gIntB (b : Bool) : gInt [.bl b] = some (.int (if b then 1 else 0)) := id rfl
@[simp] theorem v_gslL (xs : List D) (lo hi : Option Int) : gSl (.lst xs) lo hi = some (.lst (cutD xs lo hi)) := id rfl
@[simp] theorem isN_non : gIsN .non .non = some (.bl true) := id rfl
@[simp] theorem isN_str (x : Str) : gIsN (.str x) .non = some (.bl false) := id rfl
@[simp] theorem isN_tup (x : List D) : gIsN (.tup x) .non = some (.bl false) := id rfl
@[simp] theorem isN_lst (x : List D) : gIsN (.lst x) .non = some (.bl false) := id rfl
@[simp] theorem isN_int (x : Int) : gIsN (.int x) .non = some (.bl false) := id rfl
@[simp] theorem notN_non : gNotN .non .non = some (.bl false) := id rfl
@[simp] theorem notN_str (x : Str) : gNotN (.str x) .non = some (.bl true) := id rfl
@[simp] theorem notN_tup (x : List D) : gNotN (.tup x) .non = some (.bl true) := id rfl
/-- a part of any list -/
def cutL {α : Type} (xs : List α) (lo hi : Option Int) : List α := (xs.drop (HT.sIx xs.length 0 lo)).take (HT.sIx xs.length xs.length hi - HT.sIx xs.length 0 lo)
theorem cutD_map {α : Type} (f : α → D) (xs : List α) (lo hi : Option Int) : cutD (xs.map f) lo hi = (cutL xs lo hi).map f := by
  simp [cutD, cutL, List.map_take, List.map_drop]
@[simp] theorem cutD_ints (xs : List Int) (lo hi : Option Int) : cutD (xs.map D.int) lo hi = (cutL xs lo hi).map D.int := cutD_map _ _ _ _
theorem cutL_sub {α : Type} {xs : List α} {lo hi : Option Int} {x : α} (h : x ∈ cutL xs lo hi) : x ∈ xs := List.mem_of_mem_drop (List.mem_of_mem_take h)
theorem cutL_len {α : Type} (xs : List α) (lo hi : Option Int) : (cutL xs lo hi).length ≤ xs.length := by
  simp only [cutL, List.length_take, List.length_drop]
  omega
theorem cutL_nn {α : Type} (xs : List α) (a b : Nat) : cutL xs (some (a : Int)) (some (b : Int)) = (xs.drop a).take (b - a) := by
  simp only [cutL, HT.sIx_nat]
  by_cases h : a ≤ xs.length
  · rw [Nat.min_eq_left h]
    by_cases h2 : b ≤ xs.length
    · rw [Nat.min_eq_left h2]
    · rw [Nat.min_eq_right (by omega), List.take_of_length_le (by simp), List.take_of_length_le (by simp; omega)]
  · have e : min a xs.length = xs.length := by omega
    rw [e, List.drop_of_length_le (Nat.le_refl _), List.drop_of_length_le (by omega)]
    simp
@[simp] theorem v_lt (i j : Int) : gLt (.int i) (.int j) = some (.bl (decide (i < j))) := id rfl
@[simp] theorem v_le (i j : Int) : gLe (.int i) (.int j) = some (.bl (decide (i ≤ j))) := id rfl
@[simp] theorem v_gt (i j : Int) : gGt (.int i) (.int j) = some (.bl (decide (j < i))) := id rfl
@[simp] theorem v_ge (i j : Int) : gGe (.int i) (.int j) = some (.bl (decide (j ≤ i))) := id rfl
@[simp] theorem v_eqI (i j : Int) : gEq (.int i) (.int j) = some (.bl (decide (i = j))) := id rfl
@[simp] theorem v_neI (i j : Int) : gNe (.int i) (.int j) = some (.bl (!decide (i = j))) := id rfl
@[simp] theorem v_neg (i : Int) : gNeg (.int i) = some (.int (-i)) := id rfl
@[simp] theorem v_lenL (xs : List D) : gLen [.lst xs] = some (.int xs.length) := id rfl
@[simp] theorem v_lenT (xs : List D) : gLen [.tup xs] = some (.int xs.length) := id rfl
@[simp] theorem v_lenS (x : Str) : gLen [.str x] = if x.length ≤ sizeLine then some (.int x.length) else none := id rfl
@[simp] theorem v_min2 (i j : Int) : gMin2 [.int i, .int j] = some (.int (if j < i then j else i)) := id rfl
@[simp] theorem v_max2 (i j : Int) : gMax2 [.int i, .int j] = some (.int (if j > i then j else i)) := id rfl
@[simp] theorem v_ixL (xs : List D) (i : Int) : gIx (.lst xs) (.int i) = atI xs i := id rfl
@[simp] theorem v_ixT (xs : List D) (i : Int) : gIx (.tup xs) (.int i) = atI xs i := id rfl
@[simp] theorem v_revL (xs : List D) : gRev (.lst xs) = some (.lst xs.reverse) := id rfl
@[simp] theorem v_isi (n : String) (d : D) : gIsi n d = (tyN d).map fun t => .bl (isTy t n) := id rfl
@[simp] theorem v_isi2 (n m : String) (d : D) : gIsi2 n m d = (tyN d).map fun t => .bl (isTy t n || isTy t m) := id rfl
@[simp] theorem v_tyI (i : Int) : tyN (.int i) = some "int" := id rfl
@[simp] theorem v_tyB (i : Bool) : tyN (.bl i) = some "bool" := id rfl
@[simp] theorem v_tyS (i : Str) : tyN (.str i) = some "str" := id rfl
@[simp] theorem v_tyT (i : List D) : tyN (.tup i) = some "tuple" := id rfl
@[simp] theorem v_tyL (i : List D) : tyN (.lst i) = some "list" := id rfl
@[simp] theorem v_tyN : tyN .non = some "NoneType" := id rfl
@[simp] theorem v_isTy_NoneTypeNoneType : isTy "NoneType" "NoneType" = true := by decide
@[simp] theorem v_isTy_NoneTypebool : isTy "NoneType" "bool" = false := by decide
@[simp] theorem v_isTy_NoneTypeint : isTy "NoneType" "int" = false := by decide
@[simp] theorem v_isTy_NoneTypestr : isTy "NoneType" "str" = false := by decide
@[simp] theorem v_isTy_NoneTypetuple : isTy "NoneType" "tuple" = false := by decide
@[simp] theorem v_isTy_NoneTypelist : isTy "NoneType" "list" = false := by decide
@[simp] theorem v_isTy_boolNoneType : isTy "bool" "NoneType" = false := by decide
@[simp] theorem v_isTy_boolbool : isTy "bool" "bool" = true := by decide
@[simp] theorem v_isTy_boolint : isTy "bool" "int" = true := by decide
@[simp] theorem v_isTy_boolstr : isTy "bool" "str" = false := by decide
@[simp] theorem v_isTy_booltuple : isTy "bool" "tuple" = false := by decide
@[simp] theorem v_isTy_boollist : isTy "bool" "list" = false := by decide
@[simp] theorem v_isTy_intNoneType : isTy "int" "NoneType" = false := by decide
@[simp] theorem v_isTy_intbool : isTy "int" "bool" = false := by decide
@[simp] theorem v_isTy_intint : isTy "int" "int" = true := by decide
@[simp] theorem v_isTy_intstr : isTy "int" "str" = false := by decide
@[simp] theorem v_isTy_inttuple : isTy "int" "tuple" = false := by decide
@[simp] theorem v_isTy_intlist : isTy "int" "list" = false := by decide
@[simp] theorem v_isTy_strNoneType : isTy "str" "NoneType" = false := by decide
@[simp] theorem v_isTy_strbool : isTy "str" "bool" = false := by decide
@[simp] theorem v_isTy_strint : isTy "str" "int" = false := by decide
@[simp] theorem v_isTy_strstr : isTy "str" "str" = true := by decide
@[simp] theorem v_isTy_strtuple : isTy "str" "tuple" = false := by decide
@[simp] theorem v_isTy_strlist : isTy "str" "list" = false := by decide
@[simp] theorem v_isTy_tupleNoneType : isTy "tuple" "NoneType" = false := by decide
@[simp] theorem v_isTy_tuplebool : isTy "tuple" "bool" = false := by decide
@[simp] theorem v_isTy_tupleint : isTy "tuple" "int" = false := by decide
@[simp] theorem v_isTy_tuplestr : isTy "tuple" "str" = false := by decide
@[simp] theorem v_isTy_tupletuple : isTy "tuple" "tuple" = true := by decide
@[simp] theorem v_isTy_tuplelist : isTy "tuple" "list" = false := by decide
@[simp] theorem v_isTy_listNoneType : isTy "list" "NoneType" = false := by decide
@[simp] theorem v_isTy_listbool : isTy "list" "bool" = false := by decide
@[simp] theorem v_isTy_listint : isTy "list" "int" = false := by decide
@[simp] theorem v_isTy_liststr : isTy "list" "str" = false := by decide
@[simp] theorem v_isTy_listtuple : isTy "list" "tuple" = false := by decide
@[simp] theorem v_isTy_listlist : isTy "list" "list" = true := by decide
theorem small_line {n : Nat} (h : n ≤ 100000) : n ≤ sizeLine := Nat.le_trans h (by decide)
@[simp] theorem v_line0 : (0 : Nat) ≤ sizeLine := Nat.zero_le _
@[simp] theorem v_line1 : (1 : Nat) ≤ sizeLine := by decide
@[simp] theorem v_line2 : (2 : Nat) ≤ sizeLine := by decide
@[simp] theorem v_line3 : (3 : Nat) ≤ sizeLine := by decide
@[simp] theorem v_line4 : (4 : Nat) ≤ sizeLine := by decide
@[simp] theorem v_line5 : (5 : Nat) ≤ sizeLine := by decide
@[simp] theorem v_line6 : (6 : Nat) ≤ sizeLine := by decide
@[simp] theorem v_line7 : (7 : Nat) ≤ sizeLine := by decide
@[simp] theorem v_line8 : (8 : Nat) ≤ sizeLine := by decide
@[simp] theorem v_isB (a b : Bool) : gIsB (.bl a) (.bl b) = some (.bl (decide (a = b))) := id rfl
@[simp] theorem v_notB (a b : Bool) : gNotB (.bl a) (.bl b) = some (.bl (!decide (a = b))) := id rfl
@[simp] theorem v_eqS (a b : Str) : gEq (.str a) (.str b) = some (.bl (decide (a = b))) := id rfl
@[simp] theorem v_neS (a b : Str) : gNe (.str a) (.str b) = some (.bl (!decide (a = b))) := id rfl
@[simp] theorem v_addS (x y : Str) : gAdd (.str x) (.str y) = if x.length + y.length ≤ sizeLine then some (.str (x ++ y)) else none := id rfl
@[simp] theorem v_addT (xs ys : List D) : gAdd (.tup xs) (.tup ys) = if xs.length + ys.length ≤ sizeLine then some (.tup (xs ++ ys)) else none := id rfl
@[simp] theorem v_ixS (z : Str) (i : Int) : gIx (.str z) (.int i) = if z.length ≤ sizeLine then (atI z.cps.toList i).map fun c => .str ⟨#[c]⟩ else none := id rfl

end Gs

/-! G10: equality, items, lists of numbers. -/
namespace Gs
open PySem L2
abbrev iL (xs : List Int) : D := .lst (xs.map D.int)
theorem toPyL_ints : ∀ xs : List Int, toPyL (xs.map D.int) = some (xs.map PyData.int)
  | [] => by simp [toPyL]
  | x :: xs => by simp [toPyL, toPy, toPyL_ints xs]
theorem eqvAll_ints : ∀ xs ys : List Int, PyData.eqvAll (xs.map PyData.int) (ys.map PyData.int) = decide (xs = ys)
  | [], [] => by simp [PyData.eqvAll]
  | [], y :: ys => by simp [PyData.eqvAll]
  | x :: xs, [] => by simp [PyData.eqvAll]
  | x :: xs, y :: ys => by
    rw [List.map_cons, List.map_cons, PyData.eqvAll, eqvAll_ints xs ys, PyData.eqv]
    by_cases h : x = y <;> by_cases h2 : xs = ys <;> simp [h, h2]
theorem canLay_ints : ∀ xs : List Int, PyData.canLayAll0 (xs.map PyData.int) = true
  | [] => by simp [PyData.canLayAll0]
  | x :: xs => by simp [PyData.canLayAll0, PyData.canLay0, canLay_ints xs]
theorem depth_ints : ∀ xs : List Int, PyData.depthAll (xs.map PyData.int) = 0
  | [] => by simp [PyData.depthAll]
  | x :: xs => by simp [PyData.depthAll, PyData.depth, depth_ints xs]
theorem shaped_ints (xs : List Int) : SeqAt.shaped (.list (xs.map PyData.int)) = true := by
  simp [SeqAt.shaped, PyData.canLay0, PyData.depth, canLay_ints, depth_ints]
theorem eqO_L (xs ys : List Int) : eqO (.lst (xs.map D.int)) (.lst (ys.map D.int)) = some (decide (xs = ys)) := by
  have h : eqO (.lst (xs.map D.int)) (.lst (ys.map D.int)) = eqPy (.lst (xs.map D.int)) (.lst (ys.map D.int)) := by simp [eqO]
  rw [h]
  simp [eqPy, toPy, toPyL_ints, shaped_ints, PyData.eqv, eqvAll_ints]
@[simp] theorem v_eqL (xs ys : List Int) : gEq (.lst (xs.map D.int)) (.lst (ys.map D.int)) = some (.bl (decide (xs = ys))) := by simp [gEq, eqO_L]
@[simp] theorem v_neL (xs ys : List Int) : gNe (.lst (xs.map D.int)) (.lst (ys.map D.int)) = some (.bl (!decide (xs = ys))) := by simp [gNe, eqO_L]
@[simp] theorem v_eqL0 (xs : List Int) : gEq (.lst (xs.map D.int)) (.lst []) = some (.bl (decide (xs = []))) := v_eqL xs []
@[simp] theorem v_neL0 (xs : List Int) : gNe (.lst (xs.map D.int)) (.lst []) = some (.bl (!decide (xs = []))) := v_neL xs []
@[simp] theorem v_at0 (a : D) (l : List D) : atI (a :: l) 0 = some a := atI_ofNat (a :: l) (j := 0) (by simp)
@[simp] theorem v_at1 (a b : D) (l : List D) : atI (a :: b :: l) 1 = some b := atI_ofNat (a :: b :: l) (j := 1) (by simp)
@[simp] theorem v_at2 (a b c : D) (l : List D) : atI (a :: b :: c :: l) 2 = some c := atI_ofNat (a :: b :: c :: l) (j := 2) (by simp)
@[simp] theorem v_at3 (a b c d : D) (l : List D) : atI (a :: b :: c :: d :: l) 3 = some d := atI_ofNat (a :: b :: c :: d :: l) (j := 3) (by simp)
theorem eqO_T2 (a b c d : Int) : eqO (.tup [.int a, .int b]) (.tup [.int c, .int d]) = some (decide (a = c ∧ b = d)) := by
  have h : eqO (.tup [.int a, .int b]) (.tup [.int c, .int d]) = eqPy (.tup [.int a, .int b]) (.tup [.int c, .int d]) := by simp [eqO]
  rw [h]
  by_cases h1 : a = c <;> by_cases h2 : b = d <;> simp [eqPy, toPy, toPyL, SeqAt.shaped, PyData.canLay0, PyData.canLayAll0, PyData.depth, PyData.depthAll, PyData.eqv, PyData.eqvAll, h1, h2]
@[simp] theorem v_eqT2 (a b c d : Int) : gEq (.tup [.int a, .int b]) (.tup [.int c, .int d]) = some (.bl (decide (a = c ∧ b = d))) := by simp [gEq, eqO_T2]
@[simp] theorem v_neT2 (a b c d : Int) : gNe (.tup [.int a, .int b]) (.tup [.int c, .int d]) = some (.bl (!decide (a = c ∧ b = d))) := by simp [gNe, eqO_T2]
theorem cutL_lo {α : Type} (xs : List α) (a : Nat) : cutL xs (some (a : Int)) none = xs.drop a := by
  simp only [cutL, HT.sIx_nat, HT.sIx_none]
  by_cases h : a ≤ xs.length
  · rw [Nat.min_eq_left h, List.take_of_length_le (by simp)]
  · have e : min a xs.length = xs.length := by omega
    rw [e, List.drop_of_length_le (Nat.le_refl _), List.drop_of_length_le (by omega)]
    simp
theorem cutL_hi {α : Type} (xs : List α) (b : Nat) : cutL xs none (some (b : Int)) = xs.take b := by
  simp only [cutL, HT.sIx_nat, HT.sIx_none, List.drop_zero, Nat.sub_zero]
  by_cases h : b ≤ xs.length
  · rw [Nat.min_eq_left h]
  · rw [Nat.min_eq_right (by omega), List.take_of_length_le (by simp), List.take_of_length_le (by omega)]
/-! == of data -/
def eqk (k : Nat) (d : D) : Prop := ∃ p, toPy d = some p ∧ p.canLay0 = true ∧ p.depth ≤ k
theorem eqk_int (k : Nat) (i : Int) : eqk k (.int i) := ⟨.int i, by simp [toPy], by simp [PyData.canLay0], by simp [PyData.depth]⟩
theorem eqk_str (k : Nat) {z : Str} (h : PyData.canLay0 (.str z) = true) : eqk k (.str z) := ⟨.str z, by simp [toPy], h, by simp [PyData.depth]⟩
theorem eqk_up {k l : Nat} {d : D} (h : eqk k d) (hl : k ≤ l) : eqk l d := by
  obtain ⟨p, h1, h2, h3⟩ := h
  exact ⟨p, h1, h2, Nat.le_trans h3 hl⟩
theorem eqk_tup {k : Nat} {v u : D} (h : eqk k v) (h2 : eqk k u) : eqk (k + 1) (.tup [v, u]) := by
  obtain ⟨p, a1, a2, a3⟩ := h
  obtain ⟨q, b1, b2, b3⟩ := h2
  exact ⟨.tuple [p, q], by simp [toPy, toPyL, a1, b1], by simp [PyData.canLay0, PyData.canLayAll0, a2, b2], by simp [PyData.depth, PyData.depthAll]; omega⟩
theorem eqk_all {k : Nat} : ∀ {xs : List D}, (∀ x ∈ xs, eqk k x) → ∃ ps, toPyL xs = some ps ∧ PyData.canLayAll0 ps = true ∧ PyData.depthAll ps ≤ k
  | [], _ => ⟨[], by simp [toPyL], by simp [PyData.canLayAll0], by simp [PyData.depthAll]⟩
  | x :: xs, h => by
    obtain ⟨p, a1, a2, a3⟩ := h x (by simp)
    obtain ⟨ps, b1, b2, b3⟩ := eqk_all (xs := xs) fun y hy => h y (by simp [hy])
    exact ⟨p :: ps, by simp [toPyL, a1, b1], by simp [PyData.canLayAll0, a2, b2], by simp [PyData.depthAll]; omega⟩
theorem eqk_lst {k : Nat} {xs : List D} (h : ∀ x ∈ xs, eqk k x) : eqk (k + 1) (.lst xs) := by
  obtain ⟨ps, b1, b2, b3⟩ := eqk_all h
  exact ⟨.list ps, by simp [toPy, b1], by simpa [PyData.canLay0] using b2, by simp [PyData.depth]; omega⟩
theorem eqO_self {xs : List D} {k : Nat} (h : eqk k (.lst xs)) (hk : k ≤ 60) : eqO (.lst xs) (.lst xs) = some true := by
  obtain ⟨p, h1, h2, h3⟩ := h
  have e : eqO (.lst xs) (.lst xs) = eqPy (.lst xs) (.lst xs) := by simp [eqO]
  rw [e]
  unfold eqPy
  rw [h1]
  have hs : SeqAt.shaped p = true := by
    simp [SeqAt.shaped, h2]
    omega
  simp [hs, SeqAt.eqv_refl p h2]
theorem eqk_bl (k : Nat) (b : Bool) : eqk k (.bl b) := ⟨.bool b, by simp [toPy], rfl, by simp [PyData.depth]⟩
theorem eqk_tupL {k : Nat} {xs : List D} (h : ∀ x ∈ xs, eqk k x) : eqk (k + 1) (.tup xs) := by
  obtain ⟨ps, b1, b2, b3⟩ := eqk_all h
  exact ⟨.tuple ps, by simp [toPy, b1], by simpa [PyData.canLay0] using b2, by simp [PyData.depth]; omega⟩
theorem eqO_nil {k : Nat} {xs : List D} (h : eqk k (.lst xs)) (hk : k ≤ 60) : eqO (.lst xs) (.lst []) = some (decide (xs = [])) := by
  obtain ⟨p, h1, h2, h3⟩ := h
  have e : eqO (.lst xs) (.lst []) = eqPy (.lst xs) (.lst []) := by simp [eqO]
  rw [e]
  unfold eqPy
  rw [h1]
  have hs : SeqAt.shaped p = true := by
    simp [SeqAt.shaped, h2]
    omega
  have hn : toPy (.lst []) = some (.list []) := by simp [toPy, toPyL]
  have hs2 : SeqAt.shaped (.list []) = true := by simp [SeqAt.shaped, PyData.canLay0, PyData.canLayAll0, PyData.depth, PyData.depthAll]
  rw [hn]
  simp only [hs, hs2, Bool.and_self, if_true]
  simp only [toPy] at h1
  cases xs with
  | nil =>
    simp [toPyL] at h1
    subst h1
    simp [PyData.eqv, PyData.eqvAll]
  | cons x xs =>
    simp only [toPyL] at h1
    cases hx : toPy x with
    | none => rw [hx] at h1; simp at h1
    | some q =>
      cases hy : toPyL xs with
      | none => rw [hx, hy] at h1; simp at h1
      | some qs =>
        rw [hx, hy] at h1
        simp at h1
        subst h1
        simp [PyData.eqv, PyData.eqvAll]
theorem eq_nil {k : Nat} {xs : List D} (h : eqk k (.lst xs)) (hk : k ≤ 60) : gEq (.lst xs) (.lst []) = some (.bl (decide (xs = []))) := by simp [gEq, eqO_nil h hk]

@[simp] theorem eq_non_str (x : Str) : gEq .non (.str x) = some (.bl false) := by simp [gEq, eqO]
@[simp] theorem eq_str_non (x : Str) : gEq (.str x) .non = some (.bl false) := by simp [gEq, eqO]
@[simp] theorem eq_non_non : gEq .non .non = some (.bl true) := by simp [gEq, eqO]
@[simp] theorem v_eq00 : gEq (.lst []) (.lst []) = some (.bl true) := (v_eqL [] []).trans (by simp)
@[simp] theorem v_ne00 : gNe (.lst []) (.lst []) = some (.bl false) := (v_neL [] []).trans (by simp)
/-! what stands in the midst of a store -/
@[simp] theorem get_mid (s0 g : Sto) (o : O) : (s0 ++ o :: g)[s0.length]? = some o := by simp
@[simp] theorem set_mid (s0 g : Sto) (o u : O) : (s0 ++ o :: g).set s0.length u = s0 ++ u :: g := by simp
@[simp] theorem lsO_mid (s0 g : Sto) (xs : List D) : lsO (s0 ++ .lst xs :: g) (.ob s0.length) = some xs := lsO_ob (get_mid _ _ _)
@[simp] theorem rsv_mid (s0 g : Sto) (xs : List D) : rsv (s0 ++ .lst xs :: g) (.ob s0.length) = .lst xs := r_ob (get_mid _ _ _)
@[simp] theorem frz_mid (s0 g : Sto) (xs : List D) : frzD (s0 ++ .lst xs :: g) (.ob s0.length) = (.lst xs, s0 ++ .gone :: g) := by rw [frz_ob (get_mid _ _ _), set_mid]
theorem forL {p : Pt} {body : S} {xs : List Int} {δ : Sl} {s : Sto} (Inv : Nat → Sl → Sto → Prop) (h0 : Inv 0 δ s)
    (hs : ∀ i (h : i < xs.length) δ s, Inv i δ s → ∃ δ1, bindP p (.int xs[i]) δ = some δ1 ∧ ∃ δ2 s2, body δ1 s = .nx δ2 s2 ∧ Inv (i + 1) δ2 s2) : ∃ δ' s', forD p body (xs.map D.int) δ s = .nx δ' s' ∧ Inv xs.length δ' s' := by
  have z := forD_inv (p := p) (body := body) Inv (xs.map D.int) 0 δ s h0 fun i d δ s hd hi => by
    obtain ⟨h1, h2⟩ := List.getElem?_eq_some_iff.mp hd
    rw [List.length_map] at h1
    rw [List.getElem_map] at h2
    subst h2
    rw [Nat.zero_add] at hi ⊢
    exact hs i h1 δ s hi
  rw [Nat.zero_add, List.length_map] at z
  exact z
end Gs

/-! GX: an exception that was caught is kept, as data. -/
namespace L2
open PySem PySem.Spec PyProof.Rows
/-- a thing that stands in the heap, laid within this frame, is tracked from here on -/
theorem Inv.track {X : Cx} {pins : List (Addr × Obj)} {σ : St} {H : Hp} {s : Shared} {a : Addr} {oe : Obj} {vs : Array Value} {o : HO} (J : Inv X pins σ H s) (hg : s.heap.get? a = some oe) (hd : oe.data = .fields vs) (na : H a = none) (n0 : X.s_0.heap.get? a = none) (nL : a ≠ X.env.locals)
    (np : ∀ p ∈ X.pn ++ pins, p.1 ≠ a) (nw : ObjOk X.prog X.w (upd H a o) s.heap a o) : Inv X pins σ (upd H a o) s where
  ok := J.ok
  os := J.os
  bare := J.bare
  base := by
    have ne : ∀ {b : Addr} {u : Obj}, X.s_0.heap.get? b = some u → b ≠ a := fun q z => by rw [z, n0] at q; cases q
    exact ⟨J.base.keep, J.base.slot, fun b u q m x => by rw [upd_ne (ne q)]; exact J.base.free b u q m x, J.base.there,
      fun b xs q => by
        have z := J.base.tups b xs q
        rw [upd_ne (ne_of_none z na)]
        exact z,
      fun b u w q => by
        have z := J.base.frzs b u w q
        rw [upd_ne (ne_of_none z na)]
        exact z,
      fun b ps q => by
        obtain ⟨more, z⟩ := J.base.tbls b ps q
        exact ⟨more, by rw [upd_ne (ne_of_none z na)]; exact z⟩⟩
  loc := J.loc
  cell := J.cell
  free := by rw [upd_ne nL.symm]; exact J.free
  freeC := fun x c e => by
    have ne : c ≠ a := fun z => by
      obtain ⟨v, oc, hoc, hdc⟩ := J.cell x c e
      rw [z, hg] at hoc
      cases hoc
      rw [hd] at hdc
      cases hdc
    rw [upd_ne ne]
    exact J.freeC x c e
  pin := fun p hp => by
    obtain ⟨e1, e2, e3, e4, e5⟩ := J.pin p hp
    exact ⟨e1, by rw [upd_ne (np p hp)]; exact e2, e3, e4, e5⟩
  hok := HOk.laidN J.hok (fun _ _ q => q) na nw
  len := J.len
/-- an exception object of the class cls with the own dict d at a -/
def EvK (cls : Value) (d : Option Addr) (a : Addr) : HO := .ext fun h => ∃ (oe : Obj) (vs : Array Value), h.get? a = some oe ∧ Zc cls d oe ∧ oe.data = .fields vs
theorem evK_ok {P : Program} {w : World} {H : Hp} {h : Heap} {a : Addr} {cls : Value} {d : Option Addr} {oe : Obj} {vs : Array Value} (e : h.get? a = some oe) (z : Zc cls d oe) (q : oe.data = .fields vs) : ObjOk P w H h a (EvK cls d a) :=
  ⟨⟨oe, vs, e, z, q⟩, ⟨oe, e⟩, fun _ _ ⟨o, v, q1, r⟩ k => ⟨o, v, k o q1, r⟩⟩
/-- the ends of a suite, the exception at a tracked behind it -/
def kEnds (i : Nat) (D : Ends) (T : Hp → Hp) : Ends :=
  { nx := fun σ H => D.nx (σ.set i none) (T H), rt := fun v H => D.rt v (T H), bk := fun σ H => D.bk (σ.set i none) (T H), ct := fun σ H => D.ct (σ.set i none) (T H) }
def wKp (K : PySem.W.Frag) (c : Value) (i : Nat) (ts : Addr → Value → Option Addr → TS) (Wo : WX) (D : Ends) : WX := fun cls d σ H => ∃ b, PySem.W.exmOne K cls c = some b ∧
  (b = true → ∀ a, H a = none → ts a cls d (kEnds i D fun H' => upd H' a (EvK cls d a)) (σ.set i (some (.ref a))) H) ∧ (b = false → Wo cls d σ H)
section
variable {X : Cx} {x n : Str} {c : Value} {i : Nat} {body suite : List Stmt} {st₀ : Stmt} {np pos pos' : Pos} {tb : WX → TS} {ts : Addr → Value → Option Addr → TS} {Wo : WX}
theorem ps_try_keep (hs : X.stack = X.env :: X.outer) (hf : X.env.frame = some X.env.locals) (hN : X.N.Nodup) (hi : X.N[i]? = some n) (hln : X.env.kindOf n = some .local) (hx0 : X.ex = []) (hc : Names X x c) (tk : Takes X Wo)
    (hb : ∀ (W : WX) (pn : List (Addr × Obj)) (xe : Value → Shared → Prop), Takes (X.tr pn xe) W → PassesOwn (model X.prog X.w) X.A X.env xe → PSs (X.tr pn xe) body (tb W))
    (hsu : ∀ (a : Addr) (oe : Obj) (cls : Value) (d : Option Addr) (pn : List (Addr × Obj)), Zc cls d oe → (∃ vs, oe.data = .fields vs) → PSs (X.suite a ((a, oe) :: pn)) (st₀ :: suite) (ts a cls d)) :
    PS X (.Try body [.ExceptHandler (some (.Name x np)) (some n) (st₀ :: suite) pos'] [] [] pos) (fun D σ H => tb (wKp X.K c i ts Wo D) D σ H) := by
  refine ⟨fun pins s σ H D I0 hpre => ?_⟩
  have okX := I0.ok
  have frames : X.A.frames = some (X.env :: X.outer) := by rw [okX.frames, hs]
  refine wpAny_Try_except ?_
  have bodyRun := (hb (wKp X.K c i ts Wo D) (X.pn ++ pins) (fun e z1 => wpAny (model X.prog X.w) X.A (noteFrame e X.env) (fun _ z2 => wpAny (model X.prog X.w) X.A (setFlight e none)
      (fun _ z3 => wpAny (model X.prog X.w) X.A (handleBy e X.env [.ExceptHandler (some (.Name x np)) (some n) (st₀ :: suite) pos']) (SP X pins D) X.xe z3) X.xe z2) X.xe z1) (fun u z xx => ?_) PassesOwn.looking).run [] s σ H D (I0.toTry _) hpre
  · refine wpAny_mono bodyRun (fun fl z1 hsp => ?_) (fun _ _ he => he)
    cases fl with
    | next =>
      obtain ⟨σ1, H1, J1, q1⟩ := hsp
      exact wpAny_execs_nil ⟨σ1, H1, J1.ofTry okX, q1⟩
    | brk =>
      obtain ⟨σ1, H1, J1, q1⟩ := hsp
      exact ⟨σ1, H1, J1.ofTry okX, q1⟩
    | cont =>
      obtain ⟨σ1, H1, J1, q1⟩ := hsp
      exact ⟨σ1, H1, J1.ofTry okX, q1⟩
    | ret u =>
      obtain ⟨v1, σ1, H1, J1, r1, q1⟩ := hsp
      exact ⟨v1, σ1, H1, J1.ofTry okX, r1, q1⟩
  · -- what is caught
    obtain ⟨a, B, sI, pins', σc, Hc, cls, d, rfl, Jt, nb, up, sky, na, osE, ag, b, hb1, hyes, hno⟩ := xx
    have J : Inv X pins σc Hc sI := Jt.ofTry okX
    have skyE : Sky B (X.env :: X.outer) a (Zc cls d) X.env.locals z.heap := by rw [← hs]; exact sky
    have nB : B.get? a = none := by rcases skyE with q | q | q <;> exact q.2.1
    show wpAny (model X.prog X.w) X.A (noteFrame (.ref a) X.env) _ _ _
    refine Sky.land Zc.steady frames hf skyE fun hp3 fly3 up3 => ?_
    have K3 : Inv X pins σc Hc { z with heap := hp3 } := J.landed nb fly3.1 (up.trans up3) osE ag
    obtain ⟨oe3, vs3, g3, zc3, d3⟩ := fly3.there
    have notFrame : a ∉ frs (X.env :: X.outer) := fun hm => by
      obtain ⟨_, o', e', hnf⟩ := fly3.2.2.1.mem hm
      rw [g3] at e'
      cases e'
      exact hnf _ d3
    have nL : a ≠ X.env.locals := fun w => notFrame (List.mem_filterMap.mpr ⟨X.env, List.mem_cons_self, by rw [hf, w]⟩)
    have nF : a ∉ X.fs := fun hm => by
      obtain ⟨e, he, q⟩ := List.mem_filterMap.mp hm
      exact notFrame (List.mem_filterMap.mpr ⟨e, List.mem_cons_of_mem _ he, q⟩)
    -- the exception is new
    have nI : sI.heap.get? a = none := by
      cases w : sI.heap.get? a with
      | none => rfl
      | some ob =>
        have w2 := nb a ob w (by rw [hs]; exact notFrame)
        rw [nB] at w2
        cases w2
    have n0 : X.s_0.heap.get? a = none := by
      cases w : X.s_0.heap.get? a with
      | none => rfl
      | some ob =>
        obtain ⟨o', w2⟩ := J.base.there a ob w (by rw [hx0]; simp)
        rw [nI] at w2
        cases w2
    have npin : ∀ p ∈ X.pn ++ pins, p.1 ≠ a := fun p hp w => by
      have w2 := (J.pin p hp).1
      rw [w, nI] at w2
      cases w2
    refine wpAny_handleBy_cons (codeAny_handlers_test ?_) (by intro q; cases q)
    have LT : PySem.W.Looks (model X.prog X.w) hp3 (typeOf (.ref a)) cls := fun A Q E s k q => wpAny_typeOf_ref (k _ _ g3) (by rw [zc3.1]; exact q)
    have LM := PySem.W.exm_one (M := model X.prog X.w) (K3.kIn) LT hb1
    have S3 := K3.suite g3 d3 na nL nF
    have clsNamed : ∀ {Q : Value → Shared → Prop} {E : Value → Shared → Prop}, Q c { z with heap := hp3 } → wpAny (model X.prog X.w) (X.A.mark (some (.ref a))) (eval (.Name x np) X.env) Q E { z with heap := hp3 } := fun {Q E} q => by
      obtain ⟨hgl, hdbg, hm | ⟨hm, hv, hnn⟩⟩ := hc
      · exact ld_glob (X := X.suite a ((a, oe3) :: (X.pn ++ pins))) S3 hgl hm q hdbg
      · exact ld_blt (X := X.suite a ((a, oe3) :: (X.pn ++ pins))) S3 hgl hm hv q hnn hdbg
    refine clsNamed (LM.here ?_)
    cases b with
    | false =>
      show wpAny _ X.A (handleBy (.ref a) X.env []) _ _ _
      refine wpAny_handleBy_nil ?_
      obtain ⟨k1, k2, k3, oe, vs, T, oT, tsl, he, hz, hd, h1, hr⟩ := id fly3
      unfold PySem.passOn
      refine wpAny_bind (wpAny_field he hd h1 ?_)
      rw [if_neg (show ¬ ((Value.ref T == Value.none) = true) from by simp)]
      have fin : wpAny (model X.prog X.w) X.A (setFlight (.ref a) X.env.frame) (fun _ z4 => wpAny (model X.prog X.w) X.A (throw (.ref a) : Sem Flow) (SP X pins D) X.xe z4) X.xe { z with heap := hp3 } := by
        rw [hf]
        refine HandSPX.setFlight_upZ fly3 fun h4 hh4 up4 => wpAny_throw (tk _ _ ?_)
        exact ⟨a, B, sI, pins, σc, Hc, cls, d, rfl, J, nb, (up.trans up3).trans up4, .inr (.inr (by rw [hs]; exact hh4)), na, osE, ag, hno rfl⟩
      first
        | exact wpAny_bind (wpAny_pure (wpAny_bind fin))
        | exact wpAny_bind fin
    | true =>
      refine codeAny_handlers_suite_as ?_
      refine HandSPX.lands_againZ fly3 fun hp4 fly4 up4 => ?_
      have K4 : Inv X pins σc Hc { z with heap := hp4 } := J.landed nb fly4.1 ((up.trans up3).trans up4) osE ag
      obtain ⟨oe4, vs4, g4, zc4, d4⟩ := fly4.there
      have S4 := K4.suite g4 d4 na nL nF
      refine store_ok (X := X.suite a ((a, oe4) :: (X.pn ++ pins))) (v := .ref a) S4 hN hi (.inl hln) rfl (fun z5 S5 => ?_) (.inr hln)
      have run := (hsu a oe4 cls d (X.pn ++ pins) zc4 ⟨_, d4⟩).run [] z5 _ Hc _ S5 (hyes rfl a na)
      refine wpAny_mono run (fun fl z6 hsp => ?_) (fun _ _ w => False.elim w)
      have leave : ∀ {σ6 : St} {H6 : Hp} {Q : Shared → Prop}, Inv (X.suite a ((a, oe4) :: (X.pn ++ pins))) [] σ6 H6 z6 → (∀ z7, Inv X pins (σ6.set i none) (upd H6 a (EvK cls d a)) z7 → Q z7) →
          wpAny (model X.prog X.w) X.A (do bindName X.env n .none; unbindBehindTheSuite X.env n pos') (fun _ z7 => Q z7) X.xe z6 := fun {σ6 H6 Q} S6 hq => by
        obtain ⟨p1, p2, p3, p4, p5⟩ := S6.pin (a, oe4) (by simp)
        have J6 : Inv X pins σ6 H6 z6 := S6.unsuite okX
        have T6 := J6.track p1 d4 p2 n0 nL npin (evK_ok p1 zc4 d4)
        exact gone_ok T6 hN hi hln hq
      cases fl with
      | next =>
        obtain ⟨σ6, H6, S6, q6⟩ := hsp
        exact leave S6 fun z7 J7 => ⟨_, _, J7, q6⟩
      | brk =>
        obtain ⟨σ6, H6, S6, q6⟩ := hsp
        exact leave S6 fun z7 J7 => ⟨_, _, J7, q6⟩
      | cont =>
        obtain ⟨σ6, H6, S6, q6⟩ := hsp
        exact leave S6 fun z7 J7 => ⟨_, _, J7, q6⟩
      | ret u =>
        obtain ⟨v6, σ6, H6, S6, r6, q6⟩ := hsp
        exact leave S6 fun z7 J7 => ⟨_, _, _, J7, r6, q6⟩
end
end L2

/-! GY: try .. except C as e: x = e; isinstance of what may be an exception. -/
namespace Gs
open PySem L2
theorem RE.wish2 {K : PySem.W.Frag} {v0 : Vw} {ct : String → Addr} {W W' : WX} {σ : L2.St} {δ : Sl} {v : Vw} (r : RE K ⟨v0, ct, W⟩ σ δ v) : RE K ⟨v0, ct, W'⟩ σ δ v := ⟨r.le, r.sr, r.len, r.sl⟩
/-- which classes the clause takes: by pairs -/
def XT (K : PySem.W.Frag) (ct : String → Addr) (c : Addr) (t : String → Option Bool) : Prop := ∀ s b, t s = some b → PySem.W.exmOne K (.ref (ct s)) (.ref c) = some b
theorem xt_sub {K : PySem.W.Frag} {ct : String → Addr} {c : Addr} (hb : PySem.W.subIn K (.ref c) (.type "BaseException") = some true) (hd : PySem.W.hasDictIn K c = true) (ht : PySem.W.typeIn K (.ref c) = some (.type "type")) {s : String} {b : Bool} (h : PySem.W.subIn K (.ref (ct s)) (.ref c) = some b) :
    PySem.W.exmOne K (.ref (ct s)) (.ref c) = some b := PySem.W.exm_ref hb hd ht h
def sTryK (t : String → Option Bool) (i j : Nat) (fb : S) : S := fun δ s => match fb δ s with
  | .exc e δ' s' => if e.fs.isEmpty = true then (match t e.cls with
    | some true => .nx (((δ'.set i none).set j (some (.ev e.cls [] []))).set i none) s'
    | some false => .exc e δ' s'
    | none => .stk) else .stk
  | r => r
section
variable {X : Cx} {C : Cc}
theorem ss_try_keep {x n : Str} {c : Addr} {t : String → Option Bool} {i j : Nat} {body suite : List Stmt} {b₀ : Stmt} {np pos' pos : Pos} {fb : S} (hs : X.stack = X.env :: X.outer) (hf : X.env.frame = some X.env.locals) (hN : X.N.Nodup) (hi : X.N[i]? = some n) (hln : X.env.kindOf n = some .local) (hx0 : X.ex = [])
    (hc : Names X x (.ref c)) (tk : Takes X C.W) (ht : XT X.K C.ct c t)
    (hb : ∀ (W : WX) (pn : List (Addr × Obj)) (xe : Value → Shared → Prop), Takes (X.tr pn xe) W → PassesOwn (model X.prog X.w) X.A X.env xe → SSs (X.tr pn xe) { C with W := W } body fb)
    (hsu : ∀ (a : Addr) (oe : Obj) (pn : List (Addr × Obj)), PSs (X.suite a ((a, oe) :: pn)) (b₀ :: suite) (fun Dn σ H => ∃ v, σ[i]? = some (some v) ∧ Dn.nx (σ.set j (some v)) H)) :
    SS X C (.Try body [.ExceptHandler (some (.Name x np)) (some n) (b₀ :: suite) pos'] [] [] pos) (sTryK t i j fb) := by
  refine ⟨fun pins s σ H Dn I h => ?_⟩
  have hiN : i < X.N.length := (List.getElem?_eq_some_iff.mp hi).1
  refine (ps_try_keep (tb := fun W => liftS X.K { C with W := W } fb) (ts := fun a cls d => fun Dn σ H => (∃ σ0 : L2.St, σ = List.set σ0 i (some (.ref a))) ∧ Dn.nx (σ.set j (some (.ref a))) H)
    hs hf hN hi hln hx0 hc tk hb fun a oe cls d pn hz hfl => ⟨fun pins s σ H Dn I hh => by
      obtain ⟨⟨σ0, rfl⟩, h2⟩ := hh
      have hl : (List.set σ0 i (some (V.ref a))).length = X.N.length := I.len
      rw [List.length_set] at hl
      exact (hsu a oe pn).run pins s _ H Dn I ⟨.ref a, List.getElem?_set_self (by omega), h2⟩⟩).run pins s σ H Dn I ?_
  have hσ : σ.length = X.N.length := I.len
  obtain ⟨δ, v, re, eH, h⟩ := h
  refine ⟨δ, v, re.wish2, eH, ?_⟩
  unfold sTryK at h
  cases e : fb δ v.st with
  | nx δ' s' => rw [e] at h; exact fun σ' v' re l es => h σ' v' re.wish2 l es
  | bk δ' s' => rw [e] at h; exact fun σ' v' re l es => h σ' v' re.wish2 l es
  | ct δ' s' => rw [e] at h; exact fun σ' v' re l es => h σ' v' re.wish2 l es
  | rt d s' => rw [e] at h; exact h
  | stk => rw [e] at h; exact h.elim
  | exc ex δ' s' =>
    rw [e] at h
    simp only at h
    intro cls dd σ' v' re' l' es rx
    split at h
    · rename_i hfs
      have hfs' : ex.fs = [] := List.isEmpty_iff.mp hfs
      have hdd : dd = none := rx.2.elim (fun z => z.2) fun z => absurd hfs' z.1
      cases q : t ex.cls with
      | none => rw [q] at h; exact h.elim
      | some bb =>
        rw [q] at h
        refine ⟨bb, by rw [rx.1]; exact ht _ _ q, fun hb => ?_, fun hb => ?_⟩
        · subst hb
          intro a ha
          simp only at h
          subst hdd
          refine ⟨⟨σ', rfl⟩, ?_⟩
          obtain ⟨l2, s2⟩ := new_ok (o := EvO cls none a) re'.sr ha
          have rep : Rep X.K C.ct (v'.new a (EvO cls none a)).G v'.m (.ev ex.cls [] []) (.ref a) := .ev0 (by rw [← rx.1]; exact upd_same)
          exact h _ (v'.new a (EvO cls none a)) (((((re'.setU i (some (.ref a))).step l2 s2).setV j rep).setU i none)).wish2 (l'.trans l2) es
        · subst hb
          exact h cls dd σ' v' re'.wish2 l' es rx
    · exact h.elim
end
/-! isinstance -/
/-- what is known of a class that is asked for: of None, of the classes that are raised -/
structure EI (K : PySem.W.Frag) (ct : String → Addr) (tb : String → Option Bool) (cv : Value) : Prop where
  non : PySem.W.kitOne K (.type "NoneType") cv = some false
  ev : ∀ c b, tb c = some b → ExcC K (ct c) ∧ PySem.W.kitOne K (.ref (ct c)) cv = some b
def rIsEv (K : PySem.W.Frag) : List V → Hp → VK → Prop := fun xs H Q => ∃ (a D : Addr) (c : V) (cv : Value) (b : Bool), xs = [.ref a, c] ∧ ClsV c cv ∧ H a = some (EvO (.ref D) none a) ∧ ExcC K D ∧ PySem.W.kitOne K (.ref D) cv = some b ∧ Q (.bl b) H
section
variable {X : Cx} {C : Cc}
theorem call_isEv : CallR X (.builtin "isinstance") (rIsEv X.K) := by
  intro pins s σ H xs us Q I r h
  obtain ⟨a, D, c, cv, b, rfl, hcv, hH, EC, e, q⟩ := h
  cases r with
  | cons rx rr =>
    cases rr with
    | cons rt rr =>
      cases rr
      cases rx
      have ec := hcv.eq rt
      subst ec
      obtain ⟨⟨oe, vs, hget, hz, hv⟩, _⟩ := (show ObjOk X.prog X.w H s.heap a (EvO (.ref D) none a) from I.hok a _ hH)
      have J : PySem.W.InstAt s.heap a oe D none := by
        obtain ⟨oc, od, oda, osl⟩ := oe
        obtain ⟨z1, z2⟩ := hz
        dsimp only at z1 z2 hv
        subst z1 z2 hv
        exact ⟨hget, rfl, rfl, trivial⟩
      exact PySem.W.kia_one (PySem.W.handS_kitx_exc EC.hg EC.hk EC.hs EC.hd EC.ha EC.hn EC.ht EC.hm) I.kIn J e (fun z => nomatch z) fun tk => ⟨.bl b, H, I.kept (t' := tk) fun _ _ z => z, rfl, q⟩
theorem call_isU : CallR X (.builtin "isinstance") (fun xs H Q => rIsi X.K xs H Q ∨ rIsEv X.K xs H Q) := fun pins s σ H xs us Q I r h =>
  h.elim (call_isi pins s σ H xs us Q I r) (call_isEv pins s σ H xs us Q I r)
def gIsC (tb : String → Option Bool) : B1
  | .non => some (.bl false)
  | .ev c [] [] => (tb c).map .bl
  | _ => none
theorem se_isC {a : Expr} {fa : E} {pf pn pos : Pos} {nx : Str} {cV : V} {cv : Value} {tb : String → Option Bool} (ha : SE X C a fa) (hg : Gl X "isinstance") (hm : X.mg "isinstance" = none) (hc : PE X (.Name nx pn) (tC cV)) (hk : ClsV cV cv) (hE : EI X.K C.ct tb cv)
    (hvi : bootBuiltins "isinstance" = some (.builtin "isinstance") := by decide +kernel)
    (hs : starEach [a, .Name nx pn] X.env = (false, eval a X.env) :: starEach [.Name nx pn] X.env := by rfl) (hpl : (backTo pos (starEach [.Name nx pn] X.env)).any (·.1) = false := by rfl)
    (hs2 : starEach [.Name nx pn] X.env = (false, eval (.Name nx pn) X.env) :: starEach [] X.env := by rfl) :
    SE X C (.Call (.Name "isinstance" pf) [a, .Name nx pn] [] pos) (eUn (gIsC tb) fa) :=
  pe_weak (pe_callB call_isU hg hm hvi (pa_cons ha (pa_cons hc pa_nil hs2) hs) (by decide) (by decide) hs hpl) fun σ H Q h => by
    obtain ⟨δ, v8, re, eH, h1⟩ := lift_un h
    refine ⟨δ, v8, re, eH, on_mono h1 fun d x v1 l1 s1 r1 h2 => ?_⟩
    obtain ⟨v2, dx, d2, eH2, sr, e, r2, h2⟩ := h2
    rw [← eH2]
    cases r2 with
    | non =>
      simp only [gIsC, Option.some.injEq] at e
      subst e
      exact .inl ⟨.non, cV, .type "NoneType", cv, false, rfl, hk, .base .non, hE.non, h2 _ v2 .refl sr rfl (.bl _)⟩
    | @ev a0 c ks0 ds0 r3 =>
      cases r3 with
      | ev0 hG =>
        simp only [gIsC] at e
        cases q : tb c with
        | none => rw [q] at e; exact nomatch e
        | some b =>
          rw [q] at e
          simp only [Option.map_some, Option.some.injEq] at e
          subst e
          obtain ⟨h3, h4⟩ := hE.ev c b q
          exact .inr ⟨a0, C.ct c, cV, cv, b, rfl, hk, sr.sub _ _ hG, h3, h4, h2 _ v2 .refl sr rfl (.bl _)⟩
      | ev n hG hG2 hl hr =>
        cases ks0 with
        | nil => exact absurd rfl n
        | cons k ks => simp only [gIsC, reduceCtorEq] at e
    | _ => simp only [gIsC, reduceCtorEq] at e
end
@[simp] theorem v_sTryK (t : String → Option Bool) (i j : Nat) (fb : S) (δ : Sl) (s : Sto) : sTryK t i j fb δ s = (match fb δ s with
  | .exc e δ' s' => if e.fs.isEmpty = true then (match t e.cls with
    | some true => .nx (((δ'.set i none).set j (some (.ev e.cls [] []))).set i none) s'
    | some false => .exc e δ' s'
    | none => .stk) else .stk
  | r => r) := id rfl
@[simp] theorem v_isC_non (tb : String → Option Bool) : gIsC tb .non = some (.bl false) := id rfl
@[simp] theorem v_isC_ev (tb : String → Option Bool) (c : String) : gIsC tb (.ev c [] []) = (tb c).map .bl := id rfl
@[simp] theorem isN_ev (c : String) (ks : List Str) (ds : List D) : gIsN (.ev c ks ds) .non = some (.bl false) := id rfl
@[simp] theorem notN_ev (c : String) (ks : List Str) (ds : List D) : gNotN (.ev c ks ds) .non = some (.bl true) := id rfl
@[simp] theorem r_ev (s : Sto) (c : String) (ks : List Str) (ds : List D) : rsv s (.ev c ks ds) = .ev c ks ds := id rfl
end Gs

/-! GZ: a call that only looks at the lists of the store; clear; xs[::-1] as a new list. -/
namespace Gs
open PySem L2
def gones (n : Nat) : Sto := List.replicate n .gone
/-- the frozen look of a datum's top -/
def lokD (s : Sto) : D → D
  | .ob i => match s[i]? with
    | some (.lst xs) => .lst xs
    | _ => .ob i
  | d => d
def scal : D → Bool
  | .non => true
  | .bl _ => true
  | .int _ => true
  | .str _ => true
  | _ => false
/-- b is a list of the store's -/
def Vw.isL (v : Vw) (b : Addr) : Prop := ∃ (i : Nat) (xs : List D), v.st[i]? = some (.lst xs) ∧ v.m i = some b
open Classical in
noncomputable def Vw.lookG (v : Vw) : Hp := fun b => if v.isL b then v.H b else v.G b
open Classical in
noncomputable def lessG (v : Vw) (G : Hp) : Hp := fun b => if v.isL b then none else G b
section
variable {K : PySem.W.Frag} {ct : String → Addr} {v : Vw}
theorem SR.isL_at (s : SR K ct v) {b : Addr} (h : v.isL b) : v.G b = none ∧ ∃ vs, v.H b = some (.lst vs) := by
  obtain ⟨i, xs, e, em⟩ := h
  obtain ⟨a, em', g, vs, hh, _⟩ := s.obj i _ e rfl
  rw [em] at em'
  cases em'
  exact ⟨g, vs, hh⟩
theorem lookG_same (s : SR K ct v) : Same v.G v.lookG := fun b u q => by
  unfold Vw.lookG
  rw [if_neg fun z => by rw [(s.isL_at z).1] at q; cases q]
  exact q
theorem gones_get {n i : Nat} {o : O} (h : (gones n)[i]? = some o) : o = .gone := by
  unfold gones at h
  rw [List.getElem?_replicate] at h
  split at h
  · exact (Option.some.inj h).symm
  · cases h
theorem look_ok (s : SR K ct v) : SR K ct ⟨v.lookG, v.H, v.m, gones v.st.length⟩ where
  sub := fun b u q => by
    have q' : v.lookG b = some u := q
    unfold Vw.lookG at q'
    split at q'
    · exact q'
    · exact s.sub b u q'
  dom := fun i hi => s.dom i (by simpa [gones] using hi)
  obj := fun i o e l => by rw [gones_get e] at l; cases l
  inj := fun i j o u a e _ l _ _ _ => by rw [gones_get e] at l; cases l
  fk := fun i kvs e => by have z := gones_get e; cases z
theorem look_rep (s : SR K ct v) {d : D} {x : V} (r : Rep K ct v.G v.m d x) : Rep K ct v.lookG v.m (lokD v.st d) x := by
  unfold lokD
  split
  · rename_i i
    split
    · rename_i xs e
      cases r with
      | @ob _ _ _ a em =>
        obtain ⟨a', em', g, vs, hh, rr⟩ := s.obj i _ e rfl
        rw [em] at em'
        cases em'
        have : v.lookG a = some (.lst vs) := by
          unfold Vw.lookG
          rw [if_pos ⟨i, xs, e, em⟩]
          exact hh
        exact .lst (SqL.of this) (rr.mono (lookG_same s) .refl)
    · exact r.mono (lookG_same s) .refl
  · exact r.mono (lookG_same s) .refl
theorem look_repL (s : SR K ct v) : ∀ {ds : List D} {xs : List V}, RepL K ct v.G v.m ds xs → RepL K ct v.lookG v.m (ds.map (lokD v.st)) xs
  | _, _, .nil => .nil
  | _, _, .cons h r => .cons (look_rep s h) (look_repL s r)
/-- behind the look the lists are the store's again -/
theorem thaw_ok (s : SR K ct v) {v' : Vw} (l : Le ⟨v.lookG, v.H, v.m, gones v.st.length⟩ v') (s' : SR K ct v') {k : Nat} (e : v'.st = gones k) (hk : v.st.length ≤ k) :
    Le v ⟨lessG v v'.G, v'.H, v'.m, v.st ++ gones (k - v.st.length)⟩ ∧ SR K ct ⟨lessG v v'.G, v'.H, v'.m, v.st ++ gones (k - v.st.length)⟩ := by
  have none' : ∀ b, ¬ (Vw.mk v.lookG v.H v.m (gones v.st.length)).owns b := fun b ⟨i, o, a, eo, lv, _⟩ => by rw [gones_get eo] at lv; cases lv
  have hH : Same v.H v'.H := fun b u q => l.h b u q (none' b)
  have hG : Same v.G (lessG v v'.G) := fun b u q => by
    unfold lessG
    rw [if_neg fun z => by rw [(s.isL_at z).1] at q; cases q]
    exact l.g b u (lookG_same s b u q)
  have gN : ∀ {b : Addr} {u : HO}, v.G b = none → v.H b = some u → lessG v v'.G b = none := fun {b u} g h => by
    unfold lessG
    split
    · rfl
    · rename_i nl
      cases z : v'.G b with
      | none => rfl
      | some w =>
        rcases l.nw b (by rw [z]; exact fun y => nomatch y) with y | y | y
        · exfalso
          have y' : v.lookG b ≠ none := y
          unfold Vw.lookG at y'
          rw [if_neg nl] at y'
          exact y' g
        · have y' : v.H b = none := y
          rw [h] at y'
          cases y'
        · exact absurd y (none' b)
  have get : ∀ {i : Nat} {o : O}, (v.st ++ gones (k - v.st.length))[i]? = some o → o.live = true → v.st[i]? = some o := fun {i o} eo lv => by
    by_cases z : i < v.st.length
    · rwa [List.getElem?_append_left z] at eo
    · rw [List.getElem?_append_right (Nat.not_lt.mp z)] at eo
      rw [gones_get eo] at lv
      cases lv
  refine ⟨⟨hG, l.m, fun b u q _ => hH b u q, fun b q => ?_, fun b ⟨i, o, a, eo, lv, em, q⟩ => ?_, l.al⟩, fun b u q => ?_, fun i hi => ?_, fun i o eo lv => ?_, fun i j o u a e1 e2 l1 l2 m1 m2 => ?_, fun i kvs e9 => ?_⟩
  · have q' : lessG v v'.G b ≠ none := q
    unfold lessG at q'
    split at q'
    · exact absurd rfl q'
    · rename_i nl
      rcases l.nw b q' with y | y | y
      · have y' : v.lookG b ≠ none := y
        unfold Vw.lookG at y'
        rw [if_neg nl] at y'
        exact .inl y'
      · exact .inr (.inl y)
      · exact absurd y (none' b)
  · have eo' := get eo lv
    obtain ⟨a0, em0, g0, r0⟩ := s.obj i o eo' lv
    obtain ⟨_, w, hw, _⟩ := s.obj_ne eo' lv em0
    have em' : v'.m i = some a := em
    rw [l.m i a0 em0] at em'
    cases em'
    refine .inl ⟨i, o, a, eo', lv, em0, q.imp id fun ⟨C, fs, z⟩ => ⟨C, fs, ?_⟩⟩
    have z' : v'.H a = some (.ins C b fs) := z
    rw [hH _ _ hw] at z'
    rw [hw]
    exact z'
  · have q' : lessG v v'.G b = some u := q
    unfold lessG at q'
    split at q'
    · cases q'
    · exact s'.sub b u q'
  · have hi' : v.st.length + (k - v.st.length) ≤ i := by simpa [gones] using hi
    exact s'.dom i (by rw [e]; simp [gones]; omega)
  · have eo' := get eo lv
    obtain ⟨a0, em0, g0, r0⟩ := s.obj i o eo' lv
    obtain ⟨_, w, hw, _⟩ := s.obj_ne eo' lv em0
    exact ⟨a0, l.m i a0 em0, gN g0 hw, r0.mono' (v := v) hG l.m ((hH _ _ hw).trans hw.symm) fun C dx fs _ q1 q2 => ⟨(hH _ _ q1).trans q1.symm, gN q2 q1⟩⟩
  · have e1' := get e1 l1
    have e2' := get e2 l2
    obtain ⟨a1, em1, _⟩ := s.obj i o e1' l1
    obtain ⟨a2, em2, _⟩ := s.obj j u e2' l2
    have m1' : v'.m i = some a := m1
    have m2' : v'.m j = some a := m2
    rw [l.m i a1 em1] at m1'
    rw [l.m j a2 em2] at m2'
    cases m1'
    cases m2'
    exact s.inj i j o u a e1' e2' l1 l2 em1 em2
  · have e9' : (v.st ++ gones (k - v.st.length))[i]? = some (.fK kvs) := e9
    by_cases z : i < v.st.length
    · rw [List.getElem?_append_left z] at e9'
      exact FkR.mono (v := v) (v' := ⟨lessG v v'.G, v'.H, v'.m, v.st ++ gones (k - v.st.length)⟩) hG l.m (s.fk i kvs e9')
    · rw [List.getElem?_append_right (Nat.not_lt.mp z)] at e9'
      have z2 := gones_get e9'
      cases z2
end
open Classical in
noncomputable def thawR (s : Sto) : R D → R D
  | .ok d s2 => if scal d = true ∧ s.length ≤ s2.length ∧ s2 = gones s2.length then .ok d (s ++ gones (s2.length - s.length)) else .stk
  | _ => .stk
/-- a call that looks at the lists of the store, and tells a number, a truth, a text or None -/
noncomputable def eCallB (F : List D → Sto → R D) (a : As) : E := fun δ s => (a δ s).bind fun ds s1 => thawR s1 (F (ds.map (lokD s1)) (gones s1.length))
section
variable {X : Cx} {C : Cc} {pos p : Pos} {x : Str} {e : Expr} {es : List Expr} {fa : As} {k n : Nat} {f : Addr} {fd : FuncData} {ps : List Str} {F : List D → Sto → R D}
theorem se_callBr (hF : FnOk X.prog X.w X.K X.mg X.base (L2.CX X.prog X.w) k f fd ps (spG X.K C.ct n F)) (hr : Room k X.A) (tk : Takes X C.W) (hg : Gl X x) (hm : X.mg x = some (.ref f)) (hk : PySem.W.keepIn X.K (.ref f) = true) (hb : Binds X.K fd ps [])
    (ha : SA X C (e :: es) fa) (hl : LenA fa n) (hdb : (x == ("__debug__" : Str)) = false := by decide) (he : starEach (e :: es) X.env = (false, eval e X.env) :: starEach es X.env := by rfl) (hpl : (backTo pos (starEach es X.env)).any (·.1) = false := by rfl) :
    SE X C (.Call (.Name x p) (e :: es) [] pos) (eCallB F fa) :=
  pe_weak (pe_callS hF hr hg hm hk hb (fun σ => passAt tk σ) ha hdb he hpl) fun σ H Q ⟨δ, v, re, eH, h⟩ => ⟨δ, v, re, eH, on_mono (on_eq (on_bind h)) fun ds vs v1 l1 s1 r1 h1 => by
    obtain ⟨h1, s, q⟩ := h1
    refine ⟨⟨v1.lookG, v1.H, v1.m, gones v1.st.length⟩, ds.map (lokD v1.st), rfl, look_ok s1, by rw [List.length_map]; exact hl _ _ _ _ q, look_repL s1 r1, ?_⟩
    show match F (ds.map (lokD v1.st)) (gones v1.st.length) with
      | .ok d s => _
      | .exc e s => _
      | .stk => _
    unfold thawR at h1
    cases z : F (ds.map (lokD v1.st)) (gones v1.st.length) with
    | stk => rw [z] at h1; exact h1.elim
    | exc e2 s2 => rw [z] at h1; exact h1.elim
    | ok d s2 =>
      rw [z] at h1
      simp only at h1
      split at h1
      · rename_i hz
        obtain ⟨h3, h4, h5⟩ := hz
        intro x2 v' l' s' es r'
        obtain ⟨l2, s3⟩ := thaw_ok (k := s2.length) s1 l' s' (by rw [es]; exact h5) h4
        have rep : ∀ G m, Rep X.K C.ct G m d x2 := by
          cases r' <;> first
            | exact fun G m => .non
            | exact fun G m => .bl _
            | exact fun G m => .int _
            | exact fun G m => .str _
            | (simp only [scal, Bool.false_eq_true] at h3)
        exact h1 x2 ⟨lessG v1 v'.G, v'.H, v'.m, v1.st ++ gones (s2.length - v1.st.length)⟩ l2 s3 rfl (rep _ _)
      · exact h1.elim⟩
/-- o.clear() -/
def eClr (o : E) : E := fun δ s => (o δ s).bind fun x s1 => if (lsO s1 x).isSome = true then .ok .non (stO s1 x []) else .stk
theorem se_clr {o : Expr} {fo : E} {p2 p3 : Pos} (ho : SE X C o fo) (hbase : attributeBase o "clear" X.env (eval o X.env) = eval o X.env := by rfl) (hline : (p2.endLine == p3.line) = true := by rfl) :
    SE X C (.Call (.Attribute o "clear" p2) [] [] p3) (eClr fo) :=
  pe_weak (pe_bm0 PySem.F.plainAttrs_list PySem.F.slot_list_clear PySem.F.type_list_clear mt_clear ho hbase hline) fun σ H Q ⟨δ, v, re, eH, h⟩ => by
    refine ⟨δ, v, re, eH, on_mono (on_bind h) fun d x v1 l1 s1 r1 h1 => ?_⟩
    split at h1
    · rename_i hs
      obtain ⟨xs0, e0⟩ := isSome_of hs
      obtain ⟨i, p, vs0, rfl, rfl, em, q0, hh0, _⟩ := lsO_at s1 r1 e0
      obtain ⟨l3, s3⟩ := stO_ok s1 em q0 (ys := []) (us := []) .nil
      exact ⟨.inl ⟨rfl, vs0, SqL.of hh0⟩, p, vs0, rfl, rfl, hh0, h1 .non (v1.put i p (.lst []) (.lst [])) l3 s3 rfl .non⟩
    · exact h1.elim
/-- xs[::-1], a new list -/
def fRev (f : E) : Fr := fun δ s => (f δ s).bind fun d s1 => match rsv s1 d with
  | .lst xs => .ok xs.reverse s1
  | _ => .stk
theorem sf_rev {a : Expr} {fa : E} {k : Nat} {p1 p3 p4 : Pos} (ha : SE X C a fa) : SF X C (.Subscript a (.Slice none none (some (.UnaryOp .USub (.Constant (.int 1) k p1) p3)) p4) pos) (fRev fa) :=
  pe_weak (pe_revL ha) fun σ H Q ⟨δ, v, re, eH, h⟩ =>
  ⟨δ, v, re, eH, on_mono (onF_bind h) fun d x v1 l1 s1 r1 h1 => by
    have t := r1.top s1
    cases z : rsv v1.st d with
    | lst xs =>
      rw [z] at h1 t
      cases t with
      | @lst a vs _ p q =>
        refine ⟨a, vs, rfl, p, fun c hc => ?_⟩
        obtain ⟨l2, s2, no⟩ := newH (u := .lst vs.reverse) s1 hc
        exact h1 c vs.reverse ⟨v1.G, upd v1.H c (.lst vs.reverse), v1.m, v1.st⟩ l2 s2 rfl hc (s1.free hc) upd_same no q.reverse
    | _ => rw [z] at h1; exact h1.elim⟩
end
@[simp] theorem v_eCallB (F : List D → Sto → R D) (a : As) (δ : Sl) (s : Sto) : eCallB F a δ s = (a δ s).bind fun ds s1 => thawR s1 (F (ds.map (lokD s1)) (gones s1.length)) := id rfl
@[simp] theorem v_eClr (o : E) (δ : Sl) (s : Sto) : eClr o δ s = (o δ s).bind fun x s1 => if (lsO s1 x).isSome = true then .ok .non (stO s1 x []) else .stk := id rfl
@[simp] theorem v_fRev (f : E) (δ : Sl) (s : Sto) : fRev f δ s = (f δ s).bind fun d s1 => match rsv s1 d with
  | .lst xs => .ok xs.reverse s1
  | _ => .stk := id rfl
theorem thaw_val {s : Sto} {d : D} (h : scal d = true) : thawR s (.ok d (gones s.length)) = .ok d s := by
  unfold thawR
  have e : (gones s.length).length = s.length := by simp [gones]
  simp only [e, h, Nat.le_refl, and_self, if_true, Nat.sub_self]
  simp [gones]
theorem lok_ob {s : Sto} {i : Nat} {xs : List D} (h : s[i]? = some (.lst xs)) : lokD s (.ob i) = .lst xs := by unfold lokD; simp only [h]
@[simp] theorem lok_int (s : Sto) (i : Int) : lokD s (.int i) = .int i := id rfl
@[simp] theorem lok_str (s : Sto) (i : Str) : lokD s (.str i) = .str i := id rfl
@[simp] theorem lok_lst (s : Sto) (i : List D) : lokD s (.lst i) = .lst i := id rfl
@[simp] theorem lok_tup (s : Sto) (i : List D) : lokD s (.tup i) = .tup i := id rfl
end Gs

/-! GCs: classes: instances of the store, their attributes, their methods. -/
namespace L2
open PySem PySem.Spec PyProof.Rows
/-- the method m of the class at C keeps sp -/
structure MtOk (P : Program) (w : World) (K : PySem.W.Frag) (mg : Str → Option Value) (base : Heap) (CX : CXT) (k : Nat) (m : Str) (C : Addr) (sp : Sp) : Prop where
  cls : Cls K C
  ex : ∃ f fd ps, Meth K C m f ∧ FnOk P w K mg base CX k f fd ps sp ∧ Binds K fd ps []
theorem MtOk.mono {P : Program} {w : World} {K : PySem.W.Frag} {mg : Str → Option Value} {base : Heap} {CX : CXT} {j k : Nat} {m : Str} {C : Addr} {sp : Sp} (o : MtOk P w K mg base CX j m C sp) (h : j ≤ k) : MtOk P w K mg base CX k m C sp :=
  ⟨o.cls, let ⟨f, fd, ps, a, b, c⟩ := o.ex; ⟨f, fd, ps, a, b.mono h, c⟩⟩
/-- a def of the class at C, read off the class -/
structure CfOk (K : PySem.W.Frag) (C f : Addr) (m : Str) : Prop where
  ga : PySem.W.specialIn K (.ref C) "__getattribute__" = some (some (.builtin "type.__getattribute__"))
  rd : PySem.W.readsIn K C (.type "type") = true
  at_ : PySem.W.findCls K (.ref C) (.type "type") m = some (.val (.ref f))
  kp : PySem.W.keepIn K (.ref f) = true
def tMethV (S : Addr → Sp → Prop) (m : Str) (E : St → XK) (ta : TE) (t : TA) : TE := fun σ H Q => ta σ H fun x H1 => ∃ a C dx fs sp, x = .ref a ∧ H1 a = some (.ins C dx fs) ∧ fs.lookup m = none ∧ S C sp ∧ t σ H1 fun vs H2 => sp (x :: vs) H2 Q (E σ)
def tMakeS (C : Addr) (sp : Sp) (E : St → XK) (t : TA) : TE := fun σ H Q => t σ H fun vs H1 => ∀ x dx, H1 x = none → H1 dx = none → dx ≠ x → sp (.ref x :: vs) (upd (upd H1 dx (.own x)) x (.ins C dx [])) (fun v H2 => v = .non ∧ Q (.ref x) H2) (E σ)
section
variable {X : Cx} {CX : CXT} {k : Nat} {E : St → XK} {m x : Str} {pos apos p1 p2 : Pos} {e o : Expr} {es : List Expr} {ta : TE} {t : TA} {S : Addr → Sp → Prop} {C f : Addr} {fd : FuncData} {ps : List Str} {sp : Sp} {pl : Sem Bool}
/-- o.m(e, ..), the method found by the instance's class -/
theorem pe_methV (hS : ∀ C sp, S C sp → MtOk X.prog X.w X.K X.mg X.base CX k m C sp) (hr : Room k X.A) (hx : ∀ σ, PassesAt CX X σ (E σ)) (he : PE X o ta) (ha : PA X (e :: es) t)
    (ht : eval (.Call (.Attribute o m apos) (e :: es) [] pos) X.env = (do let ov ← eval o X.env; standAt apos.atName; let (f, first) ← holding [ov] (getMethod ov m pl); callWith pos f first (backTo pos (starEach (e :: es) X.env)) (backToKw pos (keywordEach [] X.env))) := by rfl)
    (hst : starEach (e :: es) X.env = (false, eval e X.env) :: starEach es X.env := by rfl) (hpl : (backTo pos (starEach es X.env)).any (·.1) = false := by rfl) :
    PE X (.Call (.Attribute o m apos) (e :: es) [] pos) (tMethV S m E ta t) :=
  ⟨fun pins s σ H Q I h => PySem.W.methodCall_KW (pl := pl) (thn (he.run pins s σ H _ I h) fun u s1 ⟨x, H1, I1, rx, a, C, dx, fs, sp, ex, ea, l, hs, q⟩ => by
    subst ex
    obtain rfl : u = Value.ref a := rx
    obtain ⟨cl, f, fd, ps, hm, F, hb⟩ := hS C sp hs
    exact getmeth_ok I1 ea cl hm l (PySem.W.callWith_K (first := [.ref a]) (h₀ := X.base) I.ok.mod.kin hm.kp (thn (ha.run pos pins s1 σ H1 _ I1 q) fun us s2 ⟨vs, H2, I2, r, q2⟩ => ⟨I2.kIn, run_fnS (us := .ref a :: us) (vs := .ref a :: vs) F hr hb (hx σ) I2 (.cons rfl r) q2⟩) hst hpl)) ht⟩
theorem pe_methV0 (hS : ∀ C sp, S C sp → MtOk X.prog X.w X.K X.mg X.base CX k m C sp) (hr : Room k X.A) (hx : ∀ σ, PassesAt CX X σ (E σ)) (he : PE X o ta)
    (ht : eval (.Call (.Attribute o m apos) [] [] pos) X.env = (do let ov ← eval o X.env; standAt apos.atName; let (f, first) ← holding [ov] (getMethod ov m pl); callWith pos f first (backTo pos (starEach [] X.env)) (backToKw pos (keywordEach [] X.env))) := by rfl) :
    PE X (.Call (.Attribute o m apos) [] [] pos) (tMethV S m E ta tNil) :=
  ⟨fun pins s σ H Q I h => PySem.W.methodCall_KW (pl := pl) (thn (he.run pins s σ H _ I h) fun u s1 ⟨x, H1, I1, rx, a, C, dx, fs, sp, ex, ea, l, hs, q⟩ => by
    subst ex
    obtain rfl : u = Value.ref a := rx
    obtain ⟨cl, f, fd, ps, hm, F, hb⟩ := hS C sp hs
    exact getmeth_ok I1 ea cl hm l (PySem.W.callWith_K0 (first := [.ref a]) I1.kIn hm.kp (run_fnS (us := [.ref a]) (vs := [.ref a]) F hr hb (hx σ) I1 (.cons rfl .nil) q))) ht⟩
/-- C.m(e, ..) -/
theorem pe_cfun (c : CfOk X.K C f m) (hg : Gl X x) (hm : X.mg x = some (.ref C)) (F : FnOk X.prog X.w X.K X.mg X.base CX k f fd ps sp) (hr : Room k X.A) (hb : Binds X.K fd ps []) (hx : ∀ σ, PassesAt CX X σ (E σ)) (ha : PA X (e :: es) t)
    (ht : eval (.Call (.Attribute (.Name x p1) m p2) (e :: es) [] pos) X.env = (do let ov ← eval (.Name x p1) X.env; standAt p2.atName; let (f, first) ← holding [ov] (getMethod ov m pl); callWith pos f first (backTo pos (starEach (e :: es) X.env)) (backToKw pos (keywordEach [] X.env))) := by rfl)
    (hdb : (x == ("__debug__" : Str)) = false := by decide) (hst : starEach (e :: es) X.env = (false, eval e X.env) :: starEach es X.env := by rfl) (hpl : (backTo pos (starEach es X.env)).any (·.1) = false := by rfl) :
    PE X (.Call (.Attribute (.Name x p1) m p2) (e :: es) [] pos) (tCallS sp E t) :=
  ⟨fun pins s σ H Q I h => PySem.W.methodCall_KW (pl := pl) (ld_glob I hg hm (PySem.W.method_cls I.kIn c.ga (PySem.W.cls_value I.kIn c.rd c.at_ rfl
    (PySem.W.callWith_K (h₀ := X.base) I.ok.mod.kin c.kp (thn (ha.run pos pins _ σ H _ (I.tok _) h) fun us s1 ⟨vs, H1, I1, r, q⟩ => ⟨I1.kIn, run_fnS F hr hb (hx σ) I1 r q⟩) hst hpl))) hdb) ht⟩
theorem run_makeS {pins : List (Addr × Obj)} {σ : St} {H : Hp} {s : Shared} {Q : VK} {us : List Value} {vs : List V} (M : Mk X.K C f) (F : FnOk X.prog X.w X.K X.mg X.base CX k f fd ps sp) (hr : Room (k + 1) X.A) (hb : Binds X.K fd ps []) (hx : PassesAt CX X σ (E σ)) (I : Inv X pins σ H s) (r : Vals vs us)
    (h : ∀ x dx, H x = none → H dx = none → dx ≠ x → sp (.ref x :: vs) (upd (upd H dx (.own x)) x (.ins C dx [])) (fun v H2 => v = .non ∧ Q (.ref x) H2) (E σ)) : wpAny (model X.prog X.w) X.A (call (.ref C) us) (EP X pins σ Q) X.xe s := by
  have hq := h (s.heap.objs.size + 1) s.heap.objs.size (I.hok.fresh (Nat.le_succ _)) (I.hok.fresh (Nat.le_refl _)) (Nat.ne_of_lt (Nat.lt_succ_self _))
  have J := Inv.made (C := C) I
  have rr : Vals (V.ref (s.heap.objs.size + 1) :: vs) (Value.ref (s.heap.objs.size + 1) :: us) := .cons rfl r
  have hl : (Value.ref (s.heap.objs.size + 1) :: us).length = ps.length := by rw [← rr.length]; exact F.len _ _ _ _ hq
  have b := hb _ (Value.ref (s.heap.objs.size + 1) :: us) J.kIn (by rw [List.append_nil]; exact hl)
  rw [List.append_nil] at b
  have run := F.run _ X.stack _ _ ⟨Value.ref (s.heap.objs.size + 1) :: us, []⟩ _ _ _ (E σ) (hr.make C us []) (J.env0.make C us []) b rr hq
  refine wpAny_call (make_map (f := f) I.kIn M.makes M.init (beq_iff_eq.mp M.fn) (codeAny_mono run fun r s' hz => ?_))
  cases r with
  | error e => exact hx pins _ _ e s' J hz
  | ok fl =>
    cases fl with
    | ret u =>
      obtain ⟨v, H3, J3, rv, ev, q3⟩ := J.after hz
      subst ev
      exact ⟨rv, V.ref (s.heap.objs.size + 1), H3, J3, rfl, q3⟩
    | next => exact hz.elim
    | brk => exact hz.elim
    | cont => exact hz.elim
/-- C(e, ..) -/
theorem pe_makeS (M : Mk X.K C f) (F : FnOk X.prog X.w X.K X.mg X.base CX k f fd ps sp) (hr : Room (k + 1) X.A) (hg : Gl X x) (hm : X.mg x = some (.ref C)) (hb : Binds X.K fd ps []) (hx : ∀ σ, PassesAt CX X σ (E σ)) (ha : PA X (e :: es) t)
    (hdb : (x == ("__debug__" : Str)) = false := by decide) (hst : starEach (e :: es) X.env = (false, eval e X.env) :: starEach es X.env := by rfl) (hpl : (backTo pos (starEach es X.env)).any (·.1) = false := by rfl) :
    PE X (.Call (.Name x p1) (e :: es) [] pos) (tMakeS C sp E t) :=
  ⟨fun pins s σ H Q I h => wpAny_Call_Name_kw (ld_glob I hg hm (PySem.W.callWith_K (h₀ := X.base) I.ok.mod.kin M.kp (thn (ha.run pos pins s σ H _ I h) fun us s1 ⟨vs, H1, I1, r, q⟩ => ⟨I1.kIn, run_makeS M F hr hb (hx σ) I1 r q⟩) hst hpl) hdb)⟩
end
/-- what an expression tells is locked from here on -/
def tLk (t : TE) : TE := fun σ H Q => t σ H fun x H1 => (∃ d kvs, x = .ref d ∧ H1 d = some (.dK kvs) ∧ ∀ ob, Q x (upd H1 d (.frz ob (.dK kvs)))) ∨ Q x H1
theorem pe_lk {X : Cx} {e : Expr} {t : TE} (h : PE X e t) : PE X e (tLk t) := ⟨fun pins s σ H Q I q => thn (h.run pins s σ H _ I q) fun u s1 ⟨x, H1, I1, r, z⟩ => by
  rcases z with ⟨d, kvs, ex, hd, z⟩ | z
  · obtain ⟨ob, I2⟩ := I1.lock hd True.intro
    exact ⟨x, _, I2, r, z ob⟩
  · exact ⟨x, H1, I1, r, z⟩⟩
end L2

/-! GCd: instances and dicts of the store, over data. -/
namespace Gs
open PySem L2
/-! ### instances -/
def inO (s : Sto) : D → Option (String × List (Str × D))
  | .ob i => match s[i]? with
    | some (.ins c fs) => some (c, fs)
    | _ => none
  | _ => none
def putD (f : Str) (v : D) : List (Str × D) → List (Str × D)
  | [] => [(f, v)]
  | (g, x) :: r => if g = f then (g, v) :: r else (g, x) :: putD f v r
theorem RepP.putF {K : PySem.W.Frag} {ct : String → Addr} {G : Hp} {m : Nat → Option Addr} {f : Str} {d : D} {v : V} (h : Rep K ct G m d v) {ds : List (Str × D)} {vs : List (Str × V)} (r : RepP K ct G m ds vs) : RepP K ct G m (putD f d ds) (L2.putF f v vs) := by
  induction r with
  | nil => exact .cons h .nil
  | @cons x d0 v0 ds vs h0 r ih =>
    simp only [putD, L2.putF]
    by_cases e : x = f
    · rw [if_pos e, if_pos e]
      exact .cons h r
    · rw [if_neg e, if_neg e]
      exact .cons h0 ih
theorem inO_at {K : PySem.W.Frag} {ct : String → Addr} {v : Vw} {d : D} {x : V} {c : String} {fs : List (Str × D)} (sr : SR K ct v) (r : Rep K ct v.G v.m d x) (e : inO v.st d = some (c, fs)) :
    ∃ i a dx vs, d = .ob i ∧ x = .ref a ∧ v.m i = some a ∧ v.st[i]? = some (.ins c fs) ∧ v.H a = some (.ins (ct c) dx vs) ∧ v.H dx = some (.own a) ∧ v.G dx = none ∧ RepP K ct v.G v.m fs vs := by
  unfold inO at e
  split at e
  · rename_i i
    split at e
    · rename_i c' fs' q
      simp only [Option.some.injEq, Prod.mk.injEq] at e
      obtain ⟨rfl, rfl⟩ := e
      cases r with
      | ob em =>
        obtain ⟨a', em', _, dx, vs, h1, h2, h3, r2⟩ := sr.obj i _ q rfl
        rw [em] at em'
        cases em'
        exact ⟨i, _, dx, vs, rfl, rfl, em, q, h1, h2, h3, r2⟩
    · exact nomatch e
  · exact nomatch e
/-- o.f -/
def eAt (cl : String → Bool) (f : Str) (o : E) : E := fun δ s => (o δ s).bind fun x s1 => match inO s1 x with
  | some (c, fs) => if cl c = true then R.ofO (fs.lookup f) s1 else .stk
  | none => .stk
/-- o.f = e -/
def sSetAt (cl : String → Bool) (f : Str) (o e : E) : S := fun δ s => sBind (e δ s) δ fun y s1 => sBind (o δ s1) δ fun x s2 => match x, inO s2 x with
  | .ob i, some (c, fs) => if cl c = true ∧ fs.length < 1000 then .nx δ (s2.set i (.ins c (putD f y fs))) else .stk
  | _, _ => .stk
/-- the classes' facts of an attribute -/
abbrev ClAt (K : PySem.W.Frag) (ct : String → Addr) (cl : String → Bool) (f : Str) : Prop := ∀ c, cl c = true → Cls K (ct c) ∧ NoAttr K (ct c) f
section
variable {X : Cx} {C : Cc} {pos p1 p2 apos : Pos} {e o : Expr} {es : List Expr} {fo fe : E} {fa : As} {f x : Str} {cl : String → Bool} {k n : Nat}
theorem se_at (hcl : ClAt X.K C.ct cl f) (ho : SE X C o fo) (hb : attributeBase o f X.env (eval o X.env) = eval o X.env := by rfl) : SE X C (.Attribute o f pos) (eAt cl f fo) :=
  pe_weak (pe_fld ho hb) fun σ H Q ⟨δ, v, re, eH, h⟩ => ⟨δ, v, re, eH, on_mono (on_bind h) fun d x v1 l1 s1 r1 h1 => by
    cases q : inO v1.st d with
    | none => rw [q] at h1; exact h1.elim
    | some p =>
      obtain ⟨c, fs⟩ := p
      rw [q] at h1
      simp only at h1
      split at h1
      · rename_i hc
        obtain ⟨i, a, dx, vs, rfl, rfl, em, e1, h2, h3, h4, r2⟩ := inO_at s1 r1 q
        obtain ⟨c1, c2⟩ := hcl c hc
        obtain ⟨y, ey, h5⟩ := on_ofO h1
        rcases r2.lookup (x := f) with ⟨z, _⟩ | ⟨d2, v2, z1, z2, z3⟩
        · rw [ey] at z; exact nomatch z
        · rw [ey] at z1
          cases z1
          exact ⟨a, _, dx, vs, v2, rfl, h2, c1, c2, z2, h5 v2 v1 .refl s1 rfl z3⟩
      · exact h1.elim⟩
theorem setAt_ok {K : PySem.W.Frag} {ct : String → Addr} {v : Vw} {i : Nat} {a dx : Addr} {c : String} {fs us : List (Str × D)} {vs ws : List (Str × V)} (sr : SR K ct v) (em : v.m i = some a) (q : v.st[i]? = some (.ins c fs)) (h1 : v.H a = some (.ins (ct c) dx vs)) (h2 : v.H dx = some (.own a)) (h3 : v.G dx = none) (r : RepP K ct v.G v.m us ws) :
    Le v (v.put i a (.ins (ct c) dx ws) (.ins c us)) ∧ SR K ct (v.put i a (.ins (ct c) dx ws) (.ins c us)) := by
  have ne : dx ≠ a := fun z => by rw [z, h1] at h2; cases h2
  refine put_ok sr q rfl em (fun C b fs z => by cases z; exact ⟨vs, h1⟩) ⟨dx, ws, upd_same, ?_, h3, r⟩
  show upd v.H a _ dx = _
  rw [upd_ne ne]
  exact h2
theorem ss_setAt {pos' : Pos} (hcl : ClAt X.K C.ct cl f) (ho : SE X C o fo) (he : SE X C e fe) (hs : swapsWith e (some (.Attribute o f pos')) pos.line X.env = pure false := by rfl) : SS X C (.Assign [.Attribute o f pos'] e pos) (sSetAt cl f fo fe) :=
  ps_weak (ps_fld ho he hs) fun Dn σ H ⟨δ, v, re, eH, h⟩ => ⟨δ, v, re, eH, on_mono (onS_R re h) fun d y v1 l1 s1 r1 h1 => ⟨δ, v1, re.step l1 s1, rfl, on_mono (onS_R (re.step l1 s1) h1) fun d2 x v2 l2 s2 r2 h2 => by
    cases q : inO v2.st d2 with
    | none => rw [q] at h2; cases d2 <;> exact h2.elim
    | some p =>
      obtain ⟨c, fs⟩ := p
      obtain ⟨i, a, dx, vs, rfl, rfl, em, e1, h3, h4, h5, r3⟩ := inO_at s2 r2 q
      rw [q] at h2
      simp only at h2
      split at h2
      · rename_i hc
        obtain ⟨c1, c2⟩ := hcl c hc.1
        obtain ⟨l3, s3⟩ := setAt_ok s2 em e1 h3 h4 h5 (RepP.putF (f := f) (l2.rep r1) r3)
        exact ⟨a, _, dx, vs, rfl, h3, c1, c2, by rw [← r3.length]; exact hc.2, h2 σ (v2.put i a (.ins (C.ct c) dx (L2.putF f y vs)) (.ins c (putD f d fs))) (((re.step l1 s1).step l2 s2).step l3 s3) l3 rfl⟩
      · exact h2.elim⟩⟩
/-- o.m(..) -/
abbrev Mt := String → Option (List D → Sto → R D)
def eMeth (M : Mt) (m : Str) (o : E) (a : As) : E := fun δ s => (o δ s).bind fun x s1 => match inO s1 x with
  | some (c, fs) => if (fs.lookup m).isNone = true then (match M c with
    | some F => (a δ s1).bind fun ds s2 => F (x :: ds) s2
    | none => .stk) else .stk
  | none => .stk
/-- the methods named m of the classes keep what M says -/
abbrev MtsOk (P : Program) (w : World) (K : PySem.W.Frag) (mg : Str → Option Value) (base : Heap) (ct : String → Addr) (k n : Nat) (m : Str) (M : Mt) : Prop := ∀ c F, M c = some F → MtOk P w K mg base (L2.CX P w) k m (ct c) (spG K ct n F)
theorem on_methV {K : PySem.W.Frag} {M : Mt} {σ : L2.St} {H : Hp} {Q : VK} {ta : TE} {t : TA} (hl : LenA fa n) (hta : ∀ σ H Q, liftE K C fo σ H Q → ta σ H Q) (hta2 : ∀ σ H Q, liftA K C fa σ H Q → t σ H Q) (h : liftE K C (eMeth M x fo fa) σ H Q)
    (mono : ∀ σ H (Q Q' : VK), (∀ v H, Q v H → Q' v H) → ta σ H Q → ta σ H Q') : tMethV (fun C' sp => ∃ c F, C' = C.ct c ∧ sp = spG K C.ct (n + 1) F ∧ M c = some F) x (WE C.W) ta t σ H Q := by
  obtain ⟨δ, v, re, eH, h⟩ := h
  refine hta _ _ _ ⟨δ, v, re, eH, on_mono (on_bind h) fun d y v1 l1 s1 r1 h1 => ?_⟩
  cases q : inO v1.st d with
  | none => rw [q] at h1; exact h1.elim
  | some p =>
    obtain ⟨c, fs⟩ := p
    rw [q] at h1
    simp only at h1
    split at h1
    · rename_i hc
      cases z : M c with
      | none => rw [z] at h1; exact h1.elim
      | some F =>
        rw [z] at h1
        obtain ⟨i, a, dx, vs, rfl, rfl, em, e1, h3, h4, h5, r3⟩ := inO_at s1 r1 q
        refine ⟨a, _, dx, vs, spG K C.ct (n + 1) F, rfl, h3, ?_, ⟨c, F, rfl, rfl, z⟩, hta2 _ _ _ ⟨δ, v1, re.step l1 s1, rfl, on_mono (on_eq (on_bind h1)) fun ds us v2 l2 s2 r2 h2 => ?_⟩⟩
        · rcases r3.lookup (x := x) with ⟨_, z1⟩ | ⟨d2, v2, z1, _⟩
          · exact z1
          · rw [z1] at hc; exact nomatch hc
        · obtain ⟨h2, s, q2⟩ := h2
          exact on_sp s2 (by rw [List.length_cons, hl _ _ _ _ q2]) (.cons (l2.rep r1) r2) h2
    · exact h1.elim
theorem se_meth {M : Mt} {m : Str} {pl : Sem Bool} (hM : MtsOk X.prog X.w X.K X.mg X.base C.ct k (n + 1) m M) (hr : Room k X.A) (tk : Takes X C.W) (ho : SE X C o fo) (ha : SA X C (e :: es) fa) (hl : LenA fa n)
    (ht : eval (.Call (.Attribute o m apos) (e :: es) [] pos) X.env = (do let ov ← eval o X.env; standAt apos.atName; let (f, first) ← holding [ov] (getMethod ov m pl); callWith pos f first (backTo pos (starEach (e :: es) X.env)) (backToKw pos (keywordEach [] X.env))) := by rfl)
    (hst : starEach (e :: es) X.env = (false, eval e X.env) :: starEach es X.env := by rfl) (hpl : (backTo pos (starEach es X.env)).any (·.1) = false := by rfl) :
    SE X C (.Call (.Attribute o m apos) (e :: es) [] pos) (eMeth M m fo fa) :=
  pe_weak (pe_methV (pl := pl) (S := fun C' sp => ∃ c F, C' = C.ct c ∧ sp = spG X.K C.ct (n + 1) F ∧ M c = some F) (CX := L2.CX X.prog X.w) (k := k) (fun C' sp ⟨c, F, e1, e2, e3⟩ => by subst e1; subst e2; exact hM c F e3) hr (fun σ => passAt tk σ) ho ha ht hst hpl) fun σ H Q h =>
    on_methV hl (fun _ _ _ z => z) (fun _ _ _ z => z) h fun σ H Q Q' w ⟨δ, v, re, eH, h⟩ => ⟨δ, v, re, eH, on_mono h fun _ _ _ _ _ _ z => w _ _ z⟩
theorem se_meth0 {M : Mt} {m : Str} {pl : Sem Bool} (hM : MtsOk X.prog X.w X.K X.mg X.base C.ct k 1 m M) (hr : Room k X.A) (tk : Takes X C.W) (ho : SE X C o fo)
    (ht : eval (.Call (.Attribute o m apos) [] [] pos) X.env = (do let ov ← eval o X.env; standAt apos.atName; let (f, first) ← holding [ov] (getMethod ov m pl); callWith pos f first (backTo pos (starEach [] X.env)) (backToKw pos (keywordEach [] X.env))) := by rfl) :
    SE X C (.Call (.Attribute o m apos) [] [] pos) (eMeth M m fo aNil) :=
  pe_weak (pe_methV0 (pl := pl) (S := fun C' sp => ∃ c F, C' = C.ct c ∧ sp = spG X.K C.ct (0 + 1) F ∧ M c = some F) (CX := L2.CX X.prog X.w) (k := k) (fun C' sp ⟨c, F, e1, e2, e3⟩ => by subst e1; subst e2; exact hM c F e3) hr (fun σ => passAt tk σ) ho ht) fun σ H Q h =>
    on_methV (fa := aNil) lenA_nil (fun _ _ _ z => z) (fun σ H Q ⟨δ, v, re, eH, h⟩ => by subst eH; exact on_self (b := []) re.sr h .nil) h fun σ H Q Q' w ⟨δ, v, re, eH, h⟩ => ⟨δ, v, re, eH, on_mono h fun _ _ _ _ _ _ z => w _ _ z⟩
/-- C.m(..) -/
theorem se_cfun {m : Str} {Ca g : Addr} {fd : FuncData} {ps : List Str} {F : List D → Sto → R D} {pl : Sem Bool} (c : CfOk X.K Ca g m) (hm : X.mg x = some (.ref Ca)) (hF : FnOk X.prog X.w X.K X.mg X.base (L2.CX X.prog X.w) k g fd ps (spG X.K C.ct n F)) (hr : Room k X.A) (tk : Takes X C.W) (hg : Gl X x) (hb : Binds X.K fd ps [])
    (ha : SA X C (e :: es) fa) (hl : LenA fa n)
    (ht : eval (.Call (.Attribute (.Name x p1) m p2) (e :: es) [] pos) X.env = (do let ov ← eval (.Name x p1) X.env; standAt p2.atName; let (f, first) ← holding [ov] (getMethod ov m pl); callWith pos f first (backTo pos (starEach (e :: es) X.env)) (backToKw pos (keywordEach [] X.env))) := by rfl)
    (hdb : (x == ("__debug__" : Str)) = false := by decide) (hst : starEach (e :: es) X.env = (false, eval e X.env) :: starEach es X.env := by rfl) (hpl : (backTo pos (starEach es X.env)).any (·.1) = false := by rfl) :
    SE X C (.Call (.Attribute (.Name x p1) m p2) (e :: es) [] pos) (eCall F fa) :=
  pe_weak (pe_cfun (pl := pl) c hg hm hF hr hb (fun σ => passAt tk σ) ha ht hdb hst hpl) fun σ H Q ⟨δ, v, re, eH, h⟩ => ⟨δ, v, re, eH, on_mono (on_eq (on_bind h)) fun ds vs v1 l1 s1 r1 h1 => by
    obtain ⟨h1, s, q⟩ := h1
    exact on_sp s1 (hl _ _ _ _ q) r1 h1⟩
/-- C(..) -/
def eMake (c : String) (F : List D → Sto → R D) (a : As) : E := fun δ s => (a δ s).bind fun ds s1 => (F (.ob s1.length :: ds) (s1 ++ [.ins c []])).bind fun r s2 => match r with
  | .non => .ok (.ob s1.length) s2
  | _ => .stk
theorem se_make {c : String} {g : Addr} {fd : FuncData} {ps : List Str} {F : List D → Sto → R D} (M : Mk X.K (C.ct c) g) (hm : X.mg x = some (.ref (C.ct c))) (hF : FnOk X.prog X.w X.K X.mg X.base (L2.CX X.prog X.w) k g fd ps (spG X.K C.ct (n + 1) F)) (hr : Room (k + 1) X.A) (tk : Takes X C.W) (hg : Gl X x) (hb : Binds X.K fd ps [])
    (ha : SA X C (e :: es) fa) (hl : LenA fa n) (hdb : (x == ("__debug__" : Str)) = false := by decide) (hst : starEach (e :: es) X.env = (false, eval e X.env) :: starEach es X.env := by rfl) (hpl : (backTo pos (starEach es X.env)).any (·.1) = false := by rfl) :
    SE X C (.Call (.Name x p1) (e :: es) [] pos) (eMake c F fa) :=
  pe_weak (pe_makeS M hF hr hg hm hb (fun σ => passAt tk σ) ha hdb hst hpl) fun σ H Q ⟨δ, v, re, eH, h⟩ => ⟨δ, v, re, eH, on_mono (on_eq (on_bind h)) fun ds vs v1 l1 s1 r1 h1 => by
    obtain ⟨h1, s, q⟩ := h1
    intro a dx na ndx ne
    have hs : Same v1.H (upd (upd v1.H dx (.own a)) a (.ins (C.ct c) dx [])) := fun b u z => by rw [upd_ne (ne_of_none z na), upd_ne (ne_of_none z ndx)]; exact z
    obtain ⟨l2, s2⟩ := alloc_ok (p := a) (H' := upd (upd v1.H dx (.own a)) a (.ins (C.ct c) dx [])) (o := .ins c []) s1 na hs (fun C' b fs z => by rw [upd_same] at z; cases z; exact ndx)
      ⟨dx, [], upd_same, by show upd _ a _ dx = _; rw [upd_ne ne, upd_same], s1.free ndx, .nil⟩
    refine ⟨_, .ob v1.st.length :: ds, rfl, s2, by rw [List.length_cons, hl _ _ _ _ q], .cons (.ob mset_same) (l2.repl r1), ?_⟩
    have h3 := on_bind (rel := rE X.K C.ct) h1
    show match F (.ob v1.st.length :: ds) (v1.st ++ [.ins c []]) with
      | .ok d s => _
      | .exc e s => _
      | .stk => _
    cases z : F (.ob v1.st.length :: ds) (v1.st ++ [.ins c []]) with
    | stk => rw [z] at h3; exact h3.elim
    | exc e2 s3 => rw [z] at h3; exact fun cls dd v' l sr es rx => h3 cls dd v' (l2.trans l) sr es rx
    | ok d s3 =>
      rw [z] at h3
      intro y v' l sr es ry
      have h4 := h3 y v' (l2.trans l) sr es ry
      cases ry <;> first
        | exact h4.elim
        | exact ⟨rfl, on_self sr h4 (.ob (l.m _ _ mset_same))⟩⟩
end
end Gs

/-! GDc: dicts of the store: made, read, stored into, their values walked. -/
namespace Gs
open PySem L2
def eDNewK : E := fun _ s => .ok (.ob s.length) (s ++ [.dK []])
def eDNewT : E := fun _ s => .ok (.ob s.length) (s ++ [.dT []])
def keyD : D → Option Key
  | .int i => some (.inl i)
  | .str x => some (.inr x)
  | _ => none
def keysD : List D → Option (List Key)
  | [] => some []
  | d :: ds => match keyD d, keysD ds with
    | some k, some ks => some (k :: ks)
    | _, _ => none
/-- the pairs of a dict with plain keys -/
def dkO (s : Sto) : D → Option (List (Key × D))
  | .ob i => match s[i]? with
    | some (.dK kvs) => some kvs
    | some (.fK kvs) => some kvs
    | _ => none
  | .dct ks ds => some (ks.zip ds)
  | _ => none
def dtO (s : Sto) : D → Option (List (List Key × D))
  | .ob i => match s[i]? with
    | some (.dT kvs) => some kvs
    | _ => none
  | _ => none
section
variable {κ : Type} [DecidableEq κ]
def valD (kvs : List (κ × D)) (k : κ) : Option D := (kvs.find? fun kv => decide (kv.1 = k)).map (·.2)
def putKD (kvs : List (κ × D)) (k : κ) (v : D) : List (κ × D) := if (kvs.any fun kv => decide (kv.1 = k)) = true then kvs.map (fun kv => if kv.1 = k then (kv.1, v) else kv) else kvs ++ [(k, v)]
variable {K : PySem.W.Frag} {ct : String → Addr} {G : Hp} {m : Nat → Option Addr}
theorem RepP.val {ds : List (κ × D)} {vs : List (κ × V)} (k : κ) (r : RepP K ct G m ds vs) : (valD ds k = none ∧ L2.valV vs k = none) ∨ ∃ d v, valD ds k = some d ∧ L2.valV vs k = some v ∧ Rep K ct G m d v := by
  induction r with
  | nil => exact .inl ⟨rfl, rfl⟩
  | @cons x d v ds vs h r ih =>
    by_cases e : x = k
    · exact .inr ⟨d, v, by simp [valD, e], L2.valV_pos (p := (x, v)) e, h⟩
    · rw [L2.valV_neg (p := (x, v)) e]
      have e2 : valD ((x, d) :: ds) k = valD ds k := by simp [valD, e]
      rw [e2]
      exact ih
theorem RepP.any {ds : List (κ × D)} {vs : List (κ × V)} (k : κ) (r : RepP K ct G m ds vs) : (ds.any fun kv => decide (kv.1 = k)) = vs.any fun kv => decide (kv.1 = k) := by
  induction r with
  | nil => rfl
  | cons h r ih => simp only [List.any_cons, ih]
theorem RepP.mapPut {d : D} {v : V} (h : Rep K ct G m d v) {ds : List (κ × D)} {vs : List (κ × V)} (k : κ) (r : RepP K ct G m ds vs) : RepP K ct G m (ds.map fun kv => if kv.1 = k then (kv.1, d) else kv) (vs.map fun kv => if kv.1 = k then (kv.1, v) else kv) := by
  induction r with
  | nil => exact .nil
  | @cons x d0 v0 ds vs h0 r ih =>
    simp only [List.map_cons]
    by_cases e : x = k
    · rw [if_pos e, if_pos e]
      exact .cons h ih
    · rw [if_neg e, if_neg e]
      exact .cons h0 ih
theorem RepP.putK {d : D} {v : V} (h : Rep K ct G m d v) {ds : List (κ × D)} {vs : List (κ × V)} (k : κ) (r : RepP K ct G m ds vs) : RepP K ct G m (putKD ds k d) (L2.putK vs k v) := by
  unfold putKD L2.putK
  rw [r.any k]
  split
  · exact r.mapPut h k
  · exact r.append (.cons h .nil)
end
section
variable {K : PySem.W.Frag} {ct : String → Addr} {v : Vw}
theorem keyD_rep {d : D} {x : V} {k : Key} (e : keyD d = some k) (r : Rep K ct v.G v.m d x) : x = kV k := by
  cases r <;> simp only [keyD, Option.some.injEq, reduceCtorEq] at e <;> subst e <;> rfl
theorem keysD_rep : ∀ {ds : List D} {xs : List V} {ks : List Key}, keysD ds = some ks → RepL K ct v.G v.m ds xs → xs = ks.map kV
  | [], _, ks, e, .nil => by simp only [keysD, Option.some.injEq] at e; subst e; rfl
  | d :: ds, _, ks, e, .cons h r => by
    simp only [keysD] at e
    split at e
    · rename_i k ks' e1 e2
      simp only [Option.some.injEq] at e
      subst e
      rw [List.map_cons, keyD_rep e1 h, keysD_rep e2 r]
    · exact nomatch e
theorem dkO_at {d : D} {x : V} {kvs : List (Key × D)} (sr : SR K ct v) (r : Rep K ct v.G v.m d x) (e : dkO v.st d = some kvs) : ∃ a vs, x = .ref a ∧ Rd v.H a (.dK vs) ∧ RepP K ct v.G v.m kvs vs := by
  unfold dkO at e
  split at e
  · rename_i i
    cases r with
    | ob em =>
      split at e
      · rename_i kvs' q
        simp only [Option.some.injEq] at e
        subst e
        obtain ⟨a', em', _, vs, h, r2⟩ := sr.obj i _ q rfl
        rw [em] at em'
        cases em'
        exact ⟨_, vs, rfl, .inl h, r2⟩
      · rename_i kvs' q
        simp only [Option.some.injEq] at e
        subst e
        obtain ⟨a', ob, vs, em', h, r2⟩ := sr.fk i _ q
        rw [em] at em'
        cases em'
        exact ⟨_, vs, rfl, .inr ⟨ob, sr.sub _ _ h⟩, r2⟩
      · exact nomatch e
  · rename_i ks ds
    simp only [Option.some.injEq] at e
    subst e
    cases r with
    | dct h l r => exact ⟨_, _, rfl, .inl (sr.sub _ _ h), RepP.zip r⟩
  · exact nomatch e
theorem dtO_at {d : D} {x : V} {kvs : List (List Key × D)} (sr : SR K ct v) (r : Rep K ct v.G v.m d x) (e : dtO v.st d = some kvs) : ∃ i a vs, d = .ob i ∧ x = .ref a ∧ v.m i = some a ∧ v.st[i]? = some (.dT kvs) ∧ v.H a = some (.dT vs) ∧ RepP K ct v.G v.m kvs vs := by
  unfold dtO at e
  split at e
  · rename_i i
    split at e
    · rename_i kvs' q
      simp only [Option.some.injEq] at e
      subst e
      cases r with
      | ob em =>
        obtain ⟨a', em', _, vs, h, r2⟩ := sr.obj i _ q rfl
        rw [em] at em'
        cases em'
        exact ⟨i, _, vs, rfl, rfl, em, q, h, r2⟩
    · exact nomatch e
  · exact nomatch e
end
/-- o[k] -/
def eDIx (o k : E) : E := fun δ s => (o δ s).bind fun x s1 => (k δ s1).bind fun y s2 => match dkO s2 x, keyD y with
  | some kvs, some k => R.ofO (valD kvs k) s2
  | _, _ => .stk
/-- o.get(k, e) -/
def eDGet2 (o k e : E) : E := fun δ s => (o δ s).bind fun x s1 => if (dkO s1 x).isSome = true then ((k δ s1).bind fun y s2 => (e δ s2).bind fun z s3 => match dkO s3 x, keyD y with
  | some kvs, some k => .ok ((valD kvs k).getD z) s3
  | _, _ => .stk) else .stk
/-- o.get((k, ..), e) -/
def eDGetT (o : E) (ks : As) (e : E) : E := fun δ s => (o δ s).bind fun x s1 => if (dtO s1 x).isSome = true then ((ks δ s1).bind fun ys s2 => if ys.length ≤ sizeLine then (e δ s2).bind fun z s3 => (match dtO s3 x, keysD ys with
  | some kvs, some k => .ok ((valD kvs k).getD z) s3
  | _, _ => .stk) else .stk) else .stk
/-- o[k] = e -/
def sDPutK (o k e : E) : S := fun δ s => sBind (e δ s) δ fun z s1 => sBind (o δ s1) δ fun x s2 => sBind (k δ s2) δ fun y s3 => match x, keyD y with
  | .ob i, some k => (match s3[i]? with
    | some (.dK kvs) => if kvs.length < sizeLine then .nx δ (s3.set i (.dK (putKD kvs k z))) else .stk
    | _ => .stk)
  | _, _ => .stk
/-- o[(k, ..)] = e -/
def sDPutT (o : E) (ks : As) (e : E) : S := fun δ s => sBind (e δ s) δ fun z s1 => sBind (o δ s1) δ fun x s2 => sBind (ks δ s2) δ fun ys s3 => if ys.length ≤ sizeLine then (match x, keysD ys with
  | .ob i, some k => (match s3[i]? with
    | some (.dT kvs) => if kvs.length < sizeLine then .nx δ (s3.set i (.dT (putKD kvs k z))) else .stk
    | _ => .stk)
  | _, _ => .stk) else .stk
/-- o.values(), walked: the dict is read alone from here on -/
def iDVals (o : E) : As := fun δ s => (o δ s).bind fun x s1 => match x with
  | .ob i => match s1[i]? with
    | some (.dK kvs) => .ok (kvs.map (·.2)) (s1.set i (.fK kvs))
    | some (.fK kvs) => .ok (kvs.map (·.2)) s1
    | _ => .stk
  | _ => .stk
theorem tup_new {K : PySem.W.Frag} {ct : String → Addr} {v : Vw} {p : Addr} {xs : List V} (sr : SR K ct v) (hp : v.H p = none) : Le v (v.new p (.tup xs)) ∧ SR K ct (v.new p (.tup xs)) := new_ok sr hp
/-- a dict of the store is read alone from here on -/
theorem lockK_ok {K : PySem.W.Frag} {ct : String → Addr} {v : Vw} {i : Nat} {a : Addr} {ob : Obj} {kvs : List (Key × D)} {vs : List (Key × V)} (s : SR K ct v) (e0 : v.st[i]? = some (.dK kvs)) (em : v.m i = some a) (hu : v.H a = some (.dK vs)) (r : RepP K ct v.G v.m kvs vs) :
    Le v ⟨upd v.G a (.frz ob (.dK vs)), upd v.H a (.frz ob (.dK vs)), v.m, v.st.set i (.fK kvs)⟩ ∧ SR K ct ⟨upd v.G a (.frz ob (.dK vs)), upd v.H a (.frz ob (.dK vs)), v.m, v.st.set i (.fK kvs)⟩ := by
  obtain ⟨ga, w0, hw0, no0⟩ := s.obj_ne e0 rfl em
  have own : v.owns a := ⟨i, _, a, e0, rfl, em, .inl rfl⟩
  have get : ∀ {j : Nat} {w : O}, (v.st.set i (.fK kvs))[j]? = some w → w.live = true → j ≠ i ∧ v.st[j]? = some w := fun {j w} e l => by
    by_cases z : i = j
    · subst z
      rw [List.getElem?_set_self (List.getElem?_eq_some_iff.mp e0).1] at e
      cases e
      cases l
    · rw [List.getElem?_set_ne z] at e
      exact ⟨fun q => z q.symm, e⟩
  have sg := same_new ga (.frz ob (.dK vs))
  have na : ∀ {j : Nat} {w : O} {a2 : Addr}, j ≠ i → v.st[j]? = some w → w.live = true → v.m j = some a2 → a2 ≠ a := fun z e l em2 zz => z (s.inj _ i _ _ a e e0 l rfl (zz ▸ em2) em)
  refine ⟨⟨sg, .refl, fun b w q n => ?_, fun b q => ?_, fun b ⟨j, w, a2, e, l, em2, q⟩ => ?_, fun b q => ?_⟩, same_upd s.sub, fun j hj => s.dom j (by simpa using hj), fun j w e l => ?_, fun j k w w2 a2 e1 e2 l1 l2 m1 m2 => ?_, fun j kv2 e => ?_⟩
  · show upd v.H a _ b = some w
    rw [upd_ne fun z => n (by rw [z]; exact own)]
    exact q
  · by_cases z : b = a
    · exact .inr (.inr (z ▸ own))
    · have q' : upd v.G a (.frz ob (.dK vs)) b ≠ none := q
      rw [upd_ne z] at q'
      exact .inl q'
  · obtain ⟨z, e⟩ := get e l
    have em2' : v.m j = some a2 := em2
    refine .inl ⟨j, w, a2, e, l, em2', q.imp id fun ⟨C, fs, q⟩ => ⟨C, fs, ?_⟩⟩
    have q' : upd v.H a (.frz ob (.dK vs)) a2 = some (.ins C b fs) := q
    rw [upd_ne (na z e l em2')] at q'
    exact q'
  · have q' : upd v.H a (.frz ob (.dK vs)) b = none := q
    by_cases z : b = a
    · rw [z, upd_same] at q'
      cases q'
    · rw [upd_ne z] at q'
      exact q'
  · obtain ⟨z, e⟩ := get e l
    obtain ⟨a2, em2, ga2, r2⟩ := s.obj j w e l
    have n2 := na z e l em2
    refine ⟨a2, em2, (upd_ne n2).trans ga2, r2.mono' (v := v) sg .refl (upd_ne n2) fun C dx fs _ q1 q2 => ?_⟩
    have nd : dx ≠ a := fun zz => by
      rw [zz, hw0] at q1
      exact no0 _ (Option.some.inj q1)
    exact ⟨upd_ne nd, (upd_ne nd).trans q2⟩
  · exact s.inj j k w w2 a2 (get e1 l1).2 (get e2 l2).2 l1 l2 m1 m2
  · have e' : (v.st.set i (.fK kvs))[j]? = some (.fK kv2) := e
    by_cases z : i = j
    · subst z
      rw [List.getElem?_set_self (List.getElem?_eq_some_iff.mp e0).1] at e'
      cases e'
      exact ⟨a, ob, vs, em, upd_same, r.mono sg .refl⟩
    · rw [List.getElem?_set_ne z] at e'
      exact FkR.mono (v := v) (v' := ⟨upd v.G a (.frz ob (.dK vs)), upd v.H a (.frz ob (.dK vs)), v.m, v.st.set i (.fK kvs)⟩) sg .refl (s.fk j kv2 e')
section
variable {X : Cx} {C : Cc} {pos p1 p2 apos cpos : Pos} {e o k : Expr} {es : List Expr} {fo fk fe : E} {fa : As}
theorem se_dnewK : SE X C (.Dict [] [] pos) eDNewK := pe_weak pe_dnewK fun σ H Q ⟨δ, v, re, eH, h⟩ p hp => by
  subst eH
  obtain ⟨l2, s2⟩ := alloc_ok (p := p) (H' := upd v.H p (.dK [])) (o := .dK []) re.sr hp (same_new hp _) (fun C b fs q => by rw [upd_same] at q; cases q) ⟨[], upd_same, .nil⟩
  exact h (.ref p) (v.alloc p (upd v.H p (.dK [])) (.dK [])) l2 s2 rfl (.ob mset_same)
theorem se_dnewT : SE X C (.Dict [] [] pos) eDNewT := pe_weak pe_dnewT fun σ H Q ⟨δ, v, re, eH, h⟩ p hp => by
  subst eH
  obtain ⟨l2, s2⟩ := alloc_ok (p := p) (H' := upd v.H p (.dT [])) (o := .dT []) re.sr hp (same_new hp _) (fun C b fs q => by rw [upd_same] at q; cases q) ⟨[], upd_same, .nil⟩
  exact h (.ref p) (v.alloc p (upd v.H p (.dT [])) (.dT [])) l2 s2 rfl (.ob mset_same)
theorem se_dix (hu : X.A.units + 1 < cLine) (ho : SE X C o fo) (hk : SE X C k fk) (hs : NoSl k := by intro _ _; rfl) : SE X C (.Subscript o k pos) (eDIx fo fk) :=
  pe_weak (pe_dget hu ho hk hs) fun σ H Q ⟨δ, v, re, eH, h⟩ => ⟨δ, v, re, eH, on_mono (on_bind h) fun d x v1 l1 s1 r1 h1 => ⟨δ, v1, re.step l1 s1, rfl, on_mono (on_bind h1) fun d2 y v2 l2 s2 r2 h2 => by
    cases q1 : dkO v2.st d with
    | none => rw [q1] at h2; exact h2.elim
    | some kvs =>
      cases q2 : keyD d2 with
      | none => rw [q1, q2] at h2; exact h2.elim
      | some kk =>
        rw [q1, q2] at h2
        obtain ⟨a, vs, rfl, rd, rp⟩ := dkO_at s2 (l2.rep r1) q1
        have ey := keyD_rep q2 r2
        subst ey
        obtain ⟨z, ez, h3⟩ := on_ofO h2
        rcases rp.val kk with ⟨z1, _⟩ | ⟨d3, v3, z1, z2, z3⟩
        · rw [ez] at z1; exact nomatch z1
        · rw [ez] at z1
          cases z1
          exact ⟨a, v3, rfl, .inl ⟨vs, kk, rd, rfl, z2.symm⟩, h3 v3 v2 .refl s2 rfl z3⟩⟩⟩
theorem se_dget2 (hu : X.A.units + 1 < cLine) (ho : SE X C o fo) (hk : SE X C k fk) (he : SE X C e fe) (m : M2 X o "get" apos k e cpos := by exact ⟨rfl, rfl, rfl, rfl⟩) : SE X C (.Call (.Attribute o "get" apos) [k, e] [] cpos) (eDGet2 fo fk fe) :=
  pe_weak (pe_dget2 hu ho hk he m) fun σ H Q ⟨δ, v, re, eH, h⟩ => ⟨δ, v, re, eH, on_mono (on_bind h) fun d x v1 l1 s1 r1 h1 => by
    split at h1
    · rename_i hs
      obtain ⟨kv0, e0⟩ := isSome_of hs
      obtain ⟨a, vs0, rfl, rd0, _⟩ := dkO_at s1 r1 e0
      refine ⟨a, rfl, .inl ⟨vs0, rd0⟩, δ, v1, re.step l1 s1, rfl, on_mono (on_bind h1) fun d2 y v2 l2 s2 r2 h2 => ⟨δ, v2, (re.step l1 s1).step l2 s2, rfl, on_mono (on_bind h2) fun d3 z v3 l3 s3 r3 h3 => ?_⟩⟩
      cases q1 : dkO v3.st d with
      | none => rw [q1] at h3; exact h3.elim
      | some kvs =>
        cases q2 : keyD d2 with
        | none => rw [q1, q2] at h3; exact h3.elim
        | some kk =>
          rw [q1, q2] at h3
          dsimp only at h3
          obtain ⟨a', vs, ea, rd, rp⟩ := dkO_at s3 ((l2.trans l3).rep r1) q1
          cases ea
          have ey := keyD_rep q2 r2
          subst ey
          rcases rp.val kk with ⟨z1, z2⟩ | ⟨d4, v4, z1, z2, z3⟩
          · rw [z1] at h3
            exact ⟨none, .inl ⟨vs, kk, rd, rfl, z2.symm⟩, on_self s3 h3 r3⟩
          · rw [z1] at h3
            exact ⟨some v4, .inl ⟨vs, kk, rd, rfl, z2.symm⟩, on_self s3 h3 z3⟩
    · exact h1.elim⟩
theorem se_dgetT {kk : Nat} (hu : X.A.units + 1 < cLine) (ho : SE X C o fo) (hk : SA X C es fa) (he : SE X C e fe) (m : M2 X o "get" apos (.Tuple es kk p1) e cpos := by exact ⟨rfl, rfl, rfl, rfl⟩) : SE X C (.Call (.Attribute o "get" apos) [.Tuple es kk p1, e] [] cpos) (eDGetT fo fa fe) :=
  pe_weak (pe_dget2 hu ho (pe_tup hk) he m) fun σ H Q ⟨δ, v, re, eH, h⟩ => ⟨δ, v, re, eH, on_mono (on_bind h) fun d x v1 l1 s1 r1 h1 => by
    split at h1
    · rename_i hs
      obtain ⟨kv0, e0⟩ := isSome_of hs
      obtain ⟨i, a, vs0, rfl, rfl, em, e1, hh, _⟩ := dtO_at s1 r1 e0
      refine ⟨a, rfl, .inr ⟨vs0, .inl hh⟩, δ, v1, re.step l1 s1, rfl, on_mono (on_bind h1) fun ds ys v2 l2 s2 r2 h2 => ?_⟩
      have hl := r2.length
      split at h2
      · rename_i hz
        refine ⟨by omega, fun p hp => ?_⟩
        obtain ⟨l3, s3⟩ := tup_new (xs := ys) s2 hp
        have h2' := on_step l3 h2
        refine ⟨δ, v2.new p (.tup ys), ((re.step l1 s1).step l2 s2).step l3 s3, rfl, on_mono (on_bind (rel := rE X.K C.ct) h2') fun d3 z v4 l4 s4 r4 h4 => ?_⟩
        have hp4 : v4.H p = some (.tup ys) := s4.sub _ _ (l4.g _ _ upd_same)
        cases q1 : dtO v4.st (.ob i) with
        | none => rw [q1] at h4; exact h4.elim
        | some kvs =>
          cases q2 : keysD ds with
          | none => rw [q1, q2] at h4; exact h4.elim
          | some kk =>
            rw [q1, q2] at h4
            dsimp only at h4
            obtain ⟨i', a', vs, ei, ea, em', e1', hh', rp⟩ := dtO_at s4 (((l2.trans l3).trans l4).rep r1) q1
            cases ei
            cases ea
            have ey := keysD_rep q2 r2
            subst ey
            rcases rp.val kk with ⟨z1, z2⟩ | ⟨d4, v5, z1, z2, z3⟩
            · rw [z1] at h4
              exact ⟨none, .inr ⟨vs, kk, p, .inl hh', rfl, hp4, z2.symm⟩, on_self s4 h4 r4⟩
            · rw [z1] at h4
              exact ⟨some v5, .inr ⟨vs, kk, p, .inl hh', rfl, hp4, z2.symm⟩, on_self s4 h4 z3⟩
      · exact h2.elim
    · exact h1.elim⟩
theorem ss_dputK {pos' : Pos} (hu : X.A.units + 1 < cLine) (ho : SE X C o fo) (hk : SE X C k fk) (he : SE X C e fe) (hs : swapsWith e (some (.Subscript o k pos')) pos.line X.env = pure false := by rfl) : SS X C (.Assign [.Subscript o k pos'] e pos) (sDPutK fo fk fe) :=
  ps_weak (ps_dput hu ho hk he hs) fun Dn σ H ⟨δ, v, re, eH, h⟩ => ⟨δ, v, re, eH, on_mono (onS_R re h) fun d z v1 l1 s1 r1 h1 => ⟨δ, v1, re.step l1 s1, rfl, on_mono (onS_R (re.step l1 s1) h1) fun d2 x v2 l2 s2 r2 h2 =>
    ⟨δ, v2, (re.step l1 s1).step l2 s2, rfl, on_mono (onS_R ((re.step l1 s1).step l2 s2) h2) fun d3 y v3 l3 s3 r3 h3 => by
      cases d2 with
      | ob i =>
        cases q2 : keyD d3 with
        | none => rw [q2] at h3; exact h3.elim
        | some kk =>
          rw [q2] at h3
          simp only at h3
          have ey := keyD_rep q2 r3
          subst ey
          cases l3.rep r2 with
          | @ob _ _ _ a em =>
            split at h3
            · rename_i kvs q
              split at h3
              · rename_i hz
                obtain ⟨a', em', _, vs, hh, rp⟩ := s3.obj i _ q rfl
                rw [em] at em'
                cases em'
                have rn := RepP.putK ((l2.trans l3).rep r1) kk rp
                obtain ⟨l4, s4⟩ := put_ok (u := .dK (L2.putK vs kk z)) (o := .dK (putKD kvs kk d)) s3 q rfl em (fun C b fs z => nomatch z) ⟨_, upd_same, rn⟩
                exact ⟨a, _, rfl, .inl ⟨vs, kk, hh, rfl, by rw [← rp.length]; exact hz, rfl⟩, h3 σ (v3.put i a (.dK (L2.putK vs kk z)) (.dK (putKD kvs kk d))) ((((re.step l1 s1).step l2 s2).step l3 s3).step l4 s4) l4 rfl⟩
              · exact h3.elim
            · exact h3.elim
      | _ => exact h3.elim⟩⟩⟩
theorem ss_dputT {pos' : Pos} {kn : Nat} (hu : X.A.units + 1 < cLine) (ho : SE X C o fo) (hk : SA X C es fa) (he : SE X C e fe) (hs : swapsWith e (some (.Subscript o (.Tuple es kn p1) pos')) pos.line X.env = pure false := by rfl) : SS X C (.Assign [.Subscript o (.Tuple es kn p1) pos'] e pos) (sDPutT fo fa fe) :=
  ps_weak (ps_dput hu ho (pe_tup hk) he hs) fun Dn σ H ⟨δ, v, re, eH, h⟩ => ⟨δ, v, re, eH, on_mono (onS_R re h) fun d z v1 l1 s1 r1 h1 => ⟨δ, v1, re.step l1 s1, rfl, on_mono (onS_R (re.step l1 s1) h1) fun d2 x v2 l2 s2 r2 h2 =>
    ⟨δ, v2, (re.step l1 s1).step l2 s2, rfl, on_mono (onS_R ((re.step l1 s1).step l2 s2) h2) fun ds ys v3 l3 s3 r3 h3 => by
      have hl := r3.length
      split at h3
      · rename_i hz
        refine ⟨by omega, fun p hp => ?_⟩
        obtain ⟨l9, s9⟩ := tup_new (xs := ys) s3 hp
        cases d2 with
        | ob i =>
          cases q2 : keysD ds with
          | none => rw [q2] at h3; exact h3.elim
          | some kk =>
            rw [q2] at h3
            simp only at h3
            have ey := keysD_rep q2 r3
            subst ey
            cases (l3.trans l9).rep r2 with
            | @ob _ _ _ a em =>
              split at h3
              · rename_i kvs q
                split at h3
                · rename_i hz2
                  obtain ⟨a', em', _, vs, hh, rp⟩ := s9.obj i _ q rfl
                  rw [em] at em'
                  cases em'
                  have rn := RepP.putK (((l2.trans l3).trans l9).rep r1) kk rp
                  obtain ⟨l4, s4⟩ := put_ok (u := .dT (L2.putK vs kk z)) (o := .dT (putKD kvs kk d)) s9 q rfl em (fun C b fs z => nomatch z) ⟨_, upd_same, rn⟩
                  exact ⟨a, _, rfl, .inr ⟨vs, kk, p, hh, rfl, upd_same, by rw [← rp.length]; exact hz2, rfl⟩, h3 σ ((v3.new p (.tup (kk.map kV))).put i a (.dT (L2.putK vs kk z)) (.dT (putKD kvs kk d))) (((((re.step l1 s1).step l2 s2).step l3 s3).step l9 s9).step l4 s4) (l9.trans l4) rfl⟩
                · exact h3.elim
              · exact h3.elim
        | _ => exact h3.elim
      · exact h3.elim⟩⟩⟩
theorem itOk_vals {K : PySem.W.Frag} {ct : String → Addr} {v : Vw} {a : Addr} {ob : Obj} {vs : List (Key × V)} {kvs : List (Key × D)} (h : v.G a = some (.frz ob (.dK vs))) (r : RepP K ct v.G v.m kvs vs) : ItOk K ct (Itd a ob vs) v (kvs.map (·.2)) where
  go := fun i w l s hi => ⟨s.sub _ _ (l.g _ _ h), by have z := r.length; rw [List.length_map] at hi; omega⟩
  stop := fun i w l s hi => ⟨s.sub _ _ (l.g _ _ h), by have z := r.length; rw [List.length_map] at hi; omega⟩
  yld := fun i w x H' l s hi y => by
    obtain ⟨rfl, k, e⟩ := y
    obtain ⟨x', e', rv⟩ := r.vals.get (List.getElem?_eq_getElem hi)
    rw [List.getElem?_map, e] at e'
    cases e'
    exact ⟨_, w, List.getElem?_eq_getElem hi, rfl, .refl, s, rfl, l.rep rv⟩
theorem si_dvals {tg : Expr} (ho : SE X C o fo) (hbase : attributeBase o "values" X.env (eval o X.env) = eval o X.env := by rfl) (hline : (apos.endLine == cpos.line) = true := by rfl) : SI X C tg (.Call (.Attribute o "values" apos) [] [] cpos) (iDVals fo) :=
  pi_weak (pi_values (pe_lk ho) hbase hline) fun σ H R ⟨δ, v, re, eH, h⟩ => ⟨δ, v, re, eH, on_mono (on_bind h) fun d x v1 l1 s1 r1 h1 => by
    cases d with
    | ob i =>
      simp only at h1
      cases r1 with
      | @ob _ _ _ a em =>
        split at h1
        · rename_i kvs q
          obtain ⟨a', em', _, vs, hh, rp⟩ := s1.obj i _ q rfl
          rw [em] at em'
          cases em'
          refine .inl ⟨a, vs, rfl, hh, fun ob => ⟨a, ob, vs, rfl, upd_same, ?_⟩⟩
          obtain ⟨l2, s2⟩ := lockK_ok (ob := ob) s1 q em hh rp
          exact h1 _ ⟨upd v1.G a (.frz ob (.dK vs)), upd v1.H a (.frz ob (.dK vs)), v1.m, v1.st.set i (.fK kvs)⟩ l2 s2 rfl (itOk_vals upd_same (rp.mono l2.g .refl))
        · rename_i kvs q
          obtain ⟨a', ob, vs, em', hh, rp⟩ := s1.fk i _ q
          rw [em] at em'
          cases em'
          exact .inr ⟨a, ob, vs, rfl, s1.sub _ _ hh, h1 _ v1 .refl s1 rfl (itOk_vals hh rp)⟩
        · exact h1.elim
    | _ => exact h1.elim⟩
end
@[simp] theorem v_eDNewK (δ : Sl) (s : Sto) : eDNewK δ s = .ok (.ob s.length) (s ++ [.dK []]) := id rfl
@[simp] theorem v_eDNewT (δ : Sl) (s : Sto) : eDNewT δ s = .ok (.ob s.length) (s ++ [.dT []]) := id rfl
@[simp] theorem v_eDIx (o k : E) (δ : Sl) (s : Sto) : eDIx o k δ s = (o δ s).bind fun x s1 => (k δ s1).bind fun y s2 => match dkO s2 x, keyD y with
  | some kvs, some k => R.ofO (valD kvs k) s2
  | _, _ => .stk := id rfl
@[simp] theorem v_eDGet2 (o k e : E) (δ : Sl) (s : Sto) : eDGet2 o k e δ s = (o δ s).bind fun x s1 => if (dkO s1 x).isSome = true then ((k δ s1).bind fun y s2 => (e δ s2).bind fun z s3 => match dkO s3 x, keyD y with
  | some kvs, some k => .ok ((valD kvs k).getD z) s3
  | _, _ => .stk) else .stk := id rfl
@[simp] theorem v_eDGetT (o : E) (ks : As) (e : E) (δ : Sl) (s : Sto) : eDGetT o ks e δ s = (o δ s).bind fun x s1 => if (dtO s1 x).isSome = true then ((ks δ s1).bind fun ys s2 => if ys.length ≤ sizeLine then (e δ s2).bind fun z s3 => (match dtO s3 x, keysD ys with
  | some kvs, some k => .ok ((valD kvs k).getD z) s3
  | _, _ => .stk) else .stk) else .stk := id rfl
@[simp] theorem v_sDPutK (o k e : E) (δ : Sl) (s : Sto) : sDPutK o k e δ s = sBind (e δ s) δ fun z s1 => sBind (o δ s1) δ fun x s2 => sBind (k δ s2) δ fun y s3 => match x, keyD y with
  | .ob i, some k => (match s3[i]? with
    | some (.dK kvs) => if kvs.length < sizeLine then .nx δ (s3.set i (.dK (putKD kvs k z))) else .stk
    | _ => .stk)
  | _, _ => .stk := id rfl
@[simp] theorem v_sDPutT (o : E) (ks : As) (e : E) (δ : Sl) (s : Sto) : sDPutT o ks e δ s = sBind (e δ s) δ fun z s1 => sBind (o δ s1) δ fun x s2 => sBind (ks δ s2) δ fun ys s3 => if ys.length ≤ sizeLine then (match x, keysD ys with
  | .ob i, some k => (match s3[i]? with
    | some (.dT kvs) => if kvs.length < sizeLine then .nx δ (s3.set i (.dT (putKD kvs k z))) else .stk
    | _ => .stk)
  | _, _ => .stk) else .stk := id rfl
@[simp] theorem v_iDVals (o : E) (δ : Sl) (s : Sto) : iDVals o δ s = (o δ s).bind fun x s1 => match x with
  | .ob i => match s1[i]? with
    | some (.dK kvs) => .ok (kvs.map (·.2)) (s1.set i (.fK kvs))
    | some (.fK kvs) => .ok (kvs.map (·.2)) s1
    | _ => .stk
  | _ => .stk := id rfl
@[simp] theorem v_eAt (cl : String → Bool) (f : Str) (o : E) (δ : Sl) (s : Sto) : eAt cl f o δ s = (o δ s).bind fun x s1 => match inO s1 x with
  | some (c, fs) => if cl c = true then R.ofO (fs.lookup f) s1 else .stk
  | none => .stk := id rfl
@[simp] theorem v_sSetAt (cl : String → Bool) (f : Str) (o e : E) (δ : Sl) (s : Sto) : sSetAt cl f o e δ s = sBind (e δ s) δ fun y s1 => sBind (o δ s1) δ fun x s2 => match x, inO s2 x with
  | .ob i, some (c, fs) => if cl c = true ∧ fs.length < 1000 then .nx δ (s2.set i (.ins c (putD f y fs))) else .stk
  | _, _ => .stk := id rfl
@[simp] theorem v_eMeth (M : Mt) (m : Str) (o : E) (a : As) (δ : Sl) (s : Sto) : eMeth M m o a δ s = (o δ s).bind fun x s1 => match inO s1 x with
  | some (c, fs) => if (fs.lookup m).isNone = true then (match M c with
    | some F => (a δ s1).bind fun ds s2 => F (x :: ds) s2
    | none => .stk) else .stk
  | none => .stk := id rfl
@[simp] theorem v_eMake (c : String) (F : List D → Sto → R D) (a : As) (δ : Sl) (s : Sto) : eMake c F a δ s = (a δ s).bind fun ds s1 => (F (.ob s1.length :: ds) (s1 ++ [.ins c []])).bind fun r s2 => match r with
  | .non => .ok (.ob s1.length) s2
  | _ => .stk := id rfl
end Gs

/-! GSm: sum of a list or a tuple. -/
namespace Gs
open PySem PySem.Spec PyProof.Rows L2
section
variable {prog : Program} {w : World} {A : Around} {E : Value → Shared → Prop} {s : Shared} {l : Addr} {its : List Value} {ns : List Int} {Q : Value → Shared → Prop}
theorem pre_sum (ns : List Int) : ∀ j, preSum (fun i => ns.getD i 0) j = (ns.take j).sum
  | 0 => rfl
  | j + 1 => by
    show preSum _ j + ns.getD j 0 = _
    rw [pre_sum ns j, List.take_add_one]
    cases h : ns[j]? with
    | none => simp [List.getD, h]
    | some x => simp [List.getD, h, List.sum_append]
theorem ints_at {its : List Value} {ns : List Int} (r : IntsAre its ns) : its.length = ns.length ∧ ∀ (i : Nat) (v : Value), its[i]? = some v → ∃ t, v = Value.int (ns.getD i 0) t := by
  induction r with
  | nil => exact ⟨rfl, fun i v h => nomatch h⟩
  | cons n t _ ih =>
    obtain ⟨h1, h2⟩ := ih
    refine ⟨by simp [h1], fun i v hi => ?_⟩
    cases i with
    | zero => simp at hi; exact ⟨_, hi.symm⟩
    | succ i =>
      obtain ⟨t, e⟩ := h2 i v (by simpa using hi)
      exact ⟨t, by simpa [List.getD] using e⟩
theorem sum_tup (hh : A.handled = none) (hl : IsTup s.heap l its.toArray) (hi : IntsAre its ns)
    (h : ∀ h' tk t', (∀ b o, s.heap.get? b = some o → h'.get? b = some o) → Q (.int ns.sum t') { s with heap := h', toks := tk }) : wpAny (model prog w) A (call (.builtin "sum") [.ref l]) Q E s := by
  obtain ⟨hlen, hat⟩ := ints_at hi
  have hlt : l < s.heap.objs.size := by obtain ⟨o, e, _⟩ := hl; exact Heap.lt_size e
  have ht : s.heap.IsTuple l its.toArray := hl
  refine call_sum_walkG (wpAny_pyIter_tuple ht ?_)
  refine ⟨_, _, _, _, _, _, fun i => ns.getD i 0, rfl, Walks.tuple (A := A.in1) hh _ l (Nat.ne_of_lt hlt) its.toArray, ⟨⟨_, Heap.get?_push_size _ rfl, rfl, rfl⟩, ?_⟩, fun b hb => ?_, fun i v hv => hat i v (by simpa using hv), fun h' tk t' hk => ?_⟩
  · obtain ⟨o, ho, r⟩ := ht
    exact ⟨o, Heap.get?_push_of_some _ ho, r⟩
  · show b < (s.heap.push _).objs.size
    rw [Heap.size_push]
    simp only [List.mem_cons, List.not_mem_nil, or_false] at hb
    rcases hb with rfl | rfl
    · exact Nat.lt_succ_self _
    · exact Nat.lt_succ_of_lt hlt
  · have e := pre_sum ns its.toArray.size
    rw [List.size_toArray, hlen, List.take_length] at e
    rw [List.size_toArray, hlen, e]
    refine h h' tk t' fun b o hb => hk b o ?_ (Heap.get?_push_of_some _ hb)
    simp only [List.mem_cons, List.not_mem_nil, or_false]
    exact Nat.ne_of_lt (Heap.lt_size hb)
end
section
variable {X : Cx}
theorem cr_sumT (hc : X.calm = true) : CallR X (.builtin "sum") (fun vs H Q => ∃ (a : Addr) (ns : List Int), vs = [V.ref a] ∧ SqT X.K H a (ns.map V.int) ∧ Q (.int ns.sum) H) := by
  intro pins s σ H vs us Q I r h
  obtain ⟨a, ns, rfl, hs, q⟩ := h
  obtain ⟨its, rv, hl, _⟩ := I.tuple hs
  rw [Vals.ref1 r]
  exact sum_tup (I.ok.hd hc) hl rv.ints fun h' tk t' hk => ⟨.int _, H, I.kept hk, ⟨_, rfl⟩, q⟩
def gSumA : BA
  | [.lst xs] => (intsOf xs).map fun ns => .int ns.sum
  | [.tup xs] => (intsOf xs).map fun ns => .int ns.sum
  | _ => none
theorem b_sumA {ct : String → Addr} (hc : X.calm = true) : CallR X (.builtin "sum") (rDA X.K ct gSumA) := by
  intro pins s σ H xs us Q I r h
  obtain ⟨v0, ds, d, rfl, sr, e, rl, h⟩ := h
  unfold gSumA at e
  split at e
  · rename_i ys
    cases q1 : intsOf ys with
    | none => rw [q1] at e; exact nomatch e
    | some ns =>
      rw [q1] at e
      simp only [Option.map_some, Option.some.injEq] at e
      subst e
      have e2 := intsOf_eq q1
      subst e2
      cases rl with
      | cons r1 r2 =>
        cases r2
        cases r1 with
        | lst p q =>
          have e3 := RepL.of_ints q
          subst e3
          exact cr_sum hc pins s σ _ _ us Q I r ⟨_, ns, rfl, p, h _ v0 .refl sr rfl (.int _)⟩
  · rename_i ys
    cases q1 : intsOf ys with
    | none => rw [q1] at e; exact nomatch e
    | some ns =>
      rw [q1] at e
      simp only [Option.map_some, Option.some.injEq] at e
      subst e
      have e2 := intsOf_eq q1
      subst e2
      cases rl with
      | cons r1 r2 =>
        cases r2
        cases r1 with
        | tup p q =>
          have e3 := RepL.of_ints q
          subst e3
          exact cr_sumT hc pins s σ _ _ us Q I r ⟨_, ns, rfl, sqt_mono sr.sub p, h _ v0 .refl sr rfl (.int _)⟩
  · exact nomatch e
end
@[simp] theorem v_sumA_lst (xs : List D) : gSumA [.lst xs] = (intsOf xs).map fun ns => .int ns.sum := id rfl
@[simp] theorem v_sumA_tup (xs : List D) : gSumA [.tup xs] = (intsOf xs).map fun ns => .int ns.sum := id rfl
end Gs

/-! GSl: [::-1] of a list, a tuple, a text; slices of lists with a step. -/
namespace HT
open PySem PySem.Spec PyProof.Rows L2
section
variable {prog : Program} {w : World} {A : Around} {E : Value → Shared → Prop} {s : Shared}
theorem sliceApplied_rev {sl : Addr} {vs : Value} {n : Nat} {Q : Int × Int × Nat → Shared → Prop} (hs : s.heap.IsSliceOf sl .none .none vs) (ps : IsPart vs (some (-1)))
    (h : Q ((n : Int) - 1, -1, n) s) : wpAny (model prog w) A (Builtin.Slice.sliceApplied (.ref sl) (pure (n : Int))) Q E s := by
  obtain ⟨os, hos, hcs, hds⟩ := id hs
  unfold Builtin.Slice.sliceApplied Builtin.Slice.sliceFields
  refine wpAny_bind (wpAny_bind (wpAny_field hos hds (x := .none) rfl (wpAny_bind (wpAny_field hos hds (x := .none) rfl (wpAny_bind (wpAny_field hos hds (x := vs) rfl (wpAny_pure ?_)))))))
  refine wpAny_bind (slicePart_ ps ?_)
  show wpAny _ _ (if ((-1 : Int) == 0) = true then _ else _) _ _ s
  rw [if_neg (by decide)]
  refine wpAny_bind (slicePart_none (wpAny_bind (slicePart_none (wpAny_bind (wpAny_pure ?_)))))
  have e1 : Builtin.Slice.sliceAdjust none none (-1) (n : Int) = ((n : Int) - 1, -1) := by
    unfold Builtin.Slice.sliceAdjust
    simp
  have e2 : Builtin.Slice.slicePlaces ((n : Int) - 1) (-1) (-1) = n := by
    unfold Builtin.Slice.slicePlaces
    simp only [show ¬ ((-1 : Int) > 0) by decide, if_false, Int.neg_neg, Int.ediv_one]
    split <;> omega
  show wpAny _ _ (match Builtin.Slice.sliceAdjust none none (-1) (n : Int) with | (lo, hi) => pure (lo, (-1 : Int), Builtin.Slice.slicePlaces lo hi (-1))) _ _ s
  rw [e1]
  show wpAny _ _ (pure ((n : Int) - 1, (-1 : Int), Builtin.Slice.slicePlaces ((n : Int) - 1) (-1) (-1))) _ _ s
  rw [e2]
  exact wpAny_pure h
theorem fm_congr {α β : Type} {f g : α → Option β} : ∀ {l : List α}, (∀ x ∈ l, f x = g x) → l.filterMap f = l.filterMap g
  | [], _ => rfl
  | x :: l, h => by
    rw [List.filterMap_cons, List.filterMap_cons, h x (by simp), fm_congr fun y hy => h y (by simp [hy])]
theorem pick_rev (xs : Array Value) : ((List.range xs.size).filterMap fun (m : Nat) => xs[((xs.size : Int) - 1 + (m : Int) * -1).toNat]?).toArray = xs.toList.reverse.toArray := by
  congr 1
  apply List.ext_getElem?
  intro i
  have e : (List.range xs.size).filterMap (fun (m : Nat) => xs[((xs.size : Int) - 1 + (m : Int) * -1).toNat]?) = (List.range xs.size).map (fun m => xs.toList.reverse[m]!) := by
    rw [← List.filterMap_eq_map]
    apply fm_congr
    intro m hm
    have hm := List.mem_range.mp hm
    have e2 : ((xs.size : Int) - 1 + (m : Int) * -1).toNat = xs.size - 1 - m := by omega
    rw [e2]
    have h1 : xs.size - 1 - m < xs.size := by omega
    have h2 : m < xs.toList.reverse.length := by simpa using hm
    simp [h1, List.getElem!_eq_getElem?_getD, List.getElem?_reverse, hm]
  rw [e]
  by_cases h : i < xs.size
  · have h2 : i < xs.toList.reverse.length := by simpa using h
    rw [List.getElem?_map, List.getElem?_range h]
    simp only [Option.map_some]
    rw [List.getElem?_eq_getElem h2, List.getElem!_eq_getElem?_getD, List.getElem?_eq_getElem h2]
    rfl
  · rw [List.getElem?_eq_none (by simpa using h), List.getElem?_eq_none (by simpa using h)]
theorem getItem_tuple_rev {t sl : Addr} {items : Array Value} {vs : Value} {Q : Value → Shared → Prop} (ht : IsTup s.heap t items) (hs : s.heap.IsSliceOf sl .none .none vs) (ps : IsPart vs (some (-1)))
    (h : Q (.ref s.heap.objs.size) { s with heap := s.heap.push { cls := .type "tuple", data := .seq items.toList.reverse.toArray } })
    (hsz : items.size ≤ sizeLine) : wpAny (model prog w) A (getItem (.ref t) (.ref sl)) Q E s := by
  have htake : sizeOk (.seq items.toList.reverse.toArray) := by
    show items.toList.reverse.toArray.size ≤ sizeLine
    simpa using hsz
  obtain ⟨os, hos, hcs, hds⟩ := id hs
  have hTs : s.TypeIs (.ref sl) "slice" := ⟨os, hos, hcs⟩
  unfold getItem
  try with_reducible refine wpAny_holding ?_
  first | refine wpAny_bind (wpAny_pure ?_) | skip
  refine wpAny_bind (wpAny_sequenceKey ht.typeIs (by decide) ?_)
  refine wpAny_bind (wpAny_callSpecial?_slot (name := Str.ofString "__getitem__") ht.typeIs PyProof.Rows.slot_tuple_getitem
    (wpAny_call_entry PyProof.Rows.slot_tuple_getitem ht.typeIs entry_tuple_getitem ?_ (args_tuple_getitem _ _)))
  show wpAny _ _ (Builtin.Tuple.tupleItemsOf (.ref t) >>= _) _ _ s
  refine wpAny_bind (tupleItemsOf_ ht ?_)
  refine wpAny_bind (wpAny_typeOf hTs ?_)
  rw [if_pos (by decide)]
  refine wpAny_bind (sliceApplied_rev (n := items.size) hs ps ?_)
  have hno : ¬ (((items.size : Int) - 1 == 0 && (-1 : Int) == 1 && items.size == items.size) = true) := by
    intro q
    rw [Bool.and_eq_true, Bool.and_eq_true] at q
    exact absurd q.1.2 (by decide)
  show wpAny _ _ (if ((items.size : Int) - 1 == 0 && (-1 : Int) == 1 && items.size == items.size) = true then _ else _) _ _ s
  rw [if_neg hno, pick_rev]
  first
    | exact wpAny_bind (m := Builtin.Tuple.tupleExact _) (wpAny_newObj_type (wpAny_pure ⟨_, rfl, wpAny_pure h⟩) htake)
    | exact wpAny_bind (m := Builtin.Tuple.tupleExact _) (wpAny_newObj_type (wpAny_bind (wpAny_pure (wpAny_pure ⟨_, rfl, wpAny_pure h⟩))) htake)
    | exact wpAny_bind (wpAny_bind (m := Builtin.Tuple.tupleExact _) (wpAny_newObj_type (wpAny_pure (wpAny_pure ⟨_, rfl, wpAny_pure h⟩)) htake))
    | exact wpAny_bind (wpAny_bind (m := Builtin.Tuple.tupleExact _) (wpAny_newObj_type (wpAny_pure ⟨_, rfl, wpAny_pure h⟩) htake))
end
end HT
namespace L2
open PySem PySem.Spec PyProof.Rows
def revS (z : Str) : Str := ⟨z.cps.toList.reverse.toArray⟩
theorem str_pick_rev (x : Str) : (⟨((Builtin.Str.strSliceIndices none none (-1) x.length).filterMap (x.cps[·]?)).toArray⟩ : Str) = revS x := by
  unfold revS
  congr 2
  have e : Builtin.Str.strSliceIndices none none (-1) x.length = (List.range x.cps.size).map fun k => x.cps.size - 1 - k := PySem.W.krv_sliceRange x.cps.size
  rw [e, PySem.W.krv_range, List.filterMap_reverse, PySem.W.krv_all]
def tRevT (K : PySem.W.Frag) (te : TE) : TE := fun σ H Q => te σ H fun x H1 => (∃ a xs, x = .ref a ∧ SqL K H1 a xs ∧ ∀ p, H1 p = none → Q (.ref p) (upd H1 p (.lst xs.reverse))) ∨
  (∃ a xs, x = .ref a ∧ SqT K H1 a xs ∧ ∀ p, H1 p = none → Q (.ref p) (upd H1 p (.tup xs.reverse))) ∨ ∃ z, x = .str z ∧ z.length ≤ sizeLine ∧ Q (.str (revS z)) H1
section
variable {X : Cx}
theorem pe_revA {e : Expr} {te : TE} {k : Nat} {p1 p2 p3 pos : Pos} (he : PE X e te) : PE X (.Subscript e (.Slice none none (some (.UnaryOp .USub (.Constant (.int 1) k p1) p2)) p3) pos) (tRevT X.K te) := by
  refine ⟨fun pins s σ H Q I h => ?_⟩
  refine Subscript_ (thn (he.run pins s σ H _ I h) fun v s1 ⟨x, H1, I1, r1, q1⟩ => ?_)
  have hst : PO X (some (.UnaryOp .USub (.Constant (.int 1) k p1) p2)) (tPart (tUn (rU fun i => .int (-i)) (tC (.int 1)))) := po_some (pe_un un_neg pe_int)
  refine wpAny_Slice (thn (po_none.run pins s1 σ H1 (fun o H2 => o = none ∧ H2 = H1) I1 ⟨rfl, rfl⟩) fun vl s2 ⟨l, H2, I2, pl, el, e2⟩ => ?_)
  subst el e2
  refine thn (po_none.run pins s2 σ H2 (fun o H3 => o = none ∧ H3 = H2) I2 ⟨rfl, rfl⟩) fun vu s3 ⟨u, H3, I3, pu, eu, e3⟩ => ?_
  subst eu e3
  refine thn (hst.run pins s3 σ H3 (fun o H4 => o = some (-1) ∧ H4 = H3) I3 ⟨1, rfl, -1, rfl, rfl, rfl⟩) fun vs s4 ⟨o, H4, I4, ps, eo, e4⟩ => ?_
  subst eo e4
  have I5 : Inv X pins σ H4 { s4 with heap := s4.heap.push { cls := .type "slice", data := .fields #[vl, vu, vs] } } := I4.kept (t' := s4.toks) fun b ob q => Heap.get?_push_of_some _ q
  have el : vl = .none := by cases pl; rfl
  have eu : vu = .none := by cases pu; rfl
  rcases q1 with ⟨a, xs, ex, hx, q⟩ | ⟨a, xs, ex, hx, q⟩ | ⟨z, ex, hz, q⟩
  · subst ex
    cases r1
    obtain ⟨its, r, ht, hz⟩ := I5.list hx
    have hlen := r.length
    refine tail_any (ops := [.ref a, .ref s4.heap.objs.size]) ht.isList.typeIs (PySem.slot_list_getitem.lookup) ?_ (by with_unfolding_all rfl)
    refine wpAny_getItem_list_slice ht.isList (Heap.IsSliceOf.new _ vl vu vs) pl pu ps (by decide) ?_ (by rw [List.size_toArray]; omega)
    rw [PySem.W.krv_pick]
    refine ⟨.ref _, _, I5.laid (t' := s4.toks) (o := .lst xs.reverse) (fun b ob q => Heap.get?_push_of_some _ q) (Nat.le_refl _) ?_, rfl, q _ (I5.hok.fresh (Nat.le_refl _))⟩
    exact ⟨by rw [List.length_reverse]; exact hz, _, 0, r.reverse, Heap.get?_push_size _ rfl⟩
  · subst ex el eu
    cases r1
    obtain ⟨its, r, ht, hz⟩ := I5.tuple hx
    have hlen := r.length
    refine tail_any (ops := [.ref a, .ref s4.heap.objs.size]) ht.typeIs PyProof.Rows.slot_tuple_getitem.lookup ?_ (by with_unfolding_all rfl)
    refine HT.getItem_tuple_rev ht (Heap.IsSliceOf.new _ .none .none vs) ps ?_ (by rw [List.size_toArray]; omega)
    refine ⟨.ref _, _, I5.laid (t' := s4.toks) (o := .tup xs.reverse) (fun b ob q => Heap.get?_push_of_some _ q) (Nat.le_refl _) ?_, rfl, q _ (I5.hok.fresh (Nat.le_refl _))⟩
    exact ⟨by rw [List.length_reverse]; exact hz, _, r.reverse, IsTup.new _ _⟩
  · subst ex
    obtain ⟨t, rfl⟩ := r1
    obtain ⟨l', e1, e2⟩ := IsPart.raw pl
    obtain ⟨u', e3, e4⟩ := IsPart.raw pu
    obtain ⟨s', e5, e6⟩ := IsPart.raw ps
    obtain ⟨os, hos, hcs, hds⟩ := Heap.IsSliceOf.new s4.heap vl vu vs
    subst e1 e3 e5
    refine tail_any (ops := [.str z t, .ref s4.heap.objs.size]) (typeIs_str _ _ _) F.slot_str_getitem.lookup ?_ (by with_unfolding_all rfl)
    have hs1 : (s'.map (·.1)) = some (-1) := e6
    have hl0 : (l'.map (·.1)) = none := e2
    have hu0 : (u'.map (·.1)) = none := e4
    refine wpAny_getItem_str_slice (l := l') (u := u') (st := s') ⟨os, hos, hcs, hds⟩ (by rw [hs1]; rfl) ?_
    have em : sliceMade z t l' u' s' = Made.str (revS z) := by
      unfold sliceMade slicePicked
      rw [hs1, hl0, hu0]
      rw [if_neg (by simp)]
      congr 1
      exact str_pick_rev z
    rw [em]
    refine ⟨?_, .str _, H4, I5.tok _, ⟨_, rfl⟩, q⟩
    show (revS z).cps.size ≤ sizeLine
    simpa [revS, Str.length] using hz
end
end L2
namespace Gs
open PySem L2
def gRevA : B1
  | .lst xs => some (.lst xs.reverse)
  | .tup xs => some (.tup xs.reverse)
  | .str z => if z.length ≤ sizeLine then some (.str (L2.revS z)) else none
  | _ => none
section
variable {X : Cx} {C : Cc} {a : Expr} {fa : E} {pos : Pos}
theorem se_revA {k : Nat} {p1 p3 p4 : Pos} (ha : SE X C a fa) : SE X C (.Subscript a (.Slice none none (some (.UnaryOp .USub (.Constant (.int 1) k p1) p3)) p4) pos) (eUn gRevA fa) :=
  pe_weak (pe_revA ha) fun σ H Q h => by
    obtain ⟨δ, v, re, eH, h1⟩ := lift_un h
    refine ⟨δ, v, re, eH, on_mono h1 fun d x v1 l1 s1 r1 h2 => ?_⟩
    obtain ⟨v2, dx, d2, eH2, sr, e, r2, h2⟩ := h2
    rw [← eH2]
    cases r2 <;> simp only [gRevA, Option.some.injEq, reduceCtorEq] at e
    · rename_i z
      split at e
      · rename_i hz
        cases e
        exact .inr (.inr ⟨z, rfl, hz, h2 _ v2 .refl sr rfl (.str _)⟩)
      · cases e
    · rename_i c vs ds p q
      subst e
      exact .inr (.inl ⟨_, _, rfl, sqt_mono sr.sub p, fun l hl => let ⟨l9, s9⟩ := new_ok (o := .tup _) sr hl; h2 _ _ l9 s9 rfl (.tup (SqT.of upd_same) (l9.repl q.reverse))⟩)
    · rename_i c vs ds p q
      subst e
      exact .inl ⟨_, _, rfl, p, fun l hl => let ⟨l9, s9⟩ := new_ok (o := .lst _) sr hl; h2 _ _ l9 s9 rfl (.lst (SqL.of upd_same) (l9.repl q.reverse))⟩
end
@[simp] theorem v_revA_lst (xs : List D) : gRevA (.lst xs) = some (.lst xs.reverse) := id rfl
@[simp] theorem v_revA_tup (xs : List D) : gRevA (.tup xs) = some (.tup xs.reverse) := id rfl
@[simp] theorem v_revA_str (z : Str) : gRevA (.str z) = if z.length ≤ sizeLine then some (.str (L2.revS z)) else none := id rfl
end Gs

/-! GXf: exceptions with fields: made, caught, read. -/
namespace L2
open PySem PySem.Spec PyProof.Rows
section
variable {X : Cx} {e : Expr} {es : List Expr} {ta : TA} {p1 p2 pos : Pos}
/-- B.__init__(self, ..), B an own class without an __init__ of its own -/
theorem pe_ceinit {x : Str} {B : Addr} {pl : Sem Bool} (hg : Gl X x) (hm : X.mg x = some (.ref B)) (ga : PySem.W.specialIn X.K (.ref B) "__getattribute__" = some (some (.builtin "type.__getattribute__"))) (hT : PySem.W.typeIn X.K (.ref B) = some (.type "type"))
    (rd : PySem.W.readsIn X.K B (.type "type") = true) (vV : PySem.W.findCls X.K (.ref B) (.type "type") "__init__" = some (.val (.builtin "ValueError.__init__"))) (ha : PA X (e :: es) ta)
    (hc : eval (.Call (.Attribute (.Name x p1) "__init__" p2) (e :: es) [] pos) X.env = (do
      let ov ← eval (.Name x p1) X.env
      standAt p2.atName
      let (f, first) ← holding [ov] (getMethod ov "__init__" pl)
      callWith pos f first (backTo pos (starEach (e :: es) X.env)) (backToKw pos (keywordEach [] X.env))) := by rfl) (hdb : (x == ("__debug__" : Str)) = false := by decide)
    (he : starEach (e :: es) X.env = (false, eval e X.env) :: starEach es X.env := by rfl) (hpl : (backTo pos (starEach es X.env)).any (·.1) = false := by rfl) :
    PE X (.Call (.Attribute (.Name x p1) "__init__" p2) (e :: es) [] pos) (tVeI X.K ta) := by
  refine ⟨fun pins s σ H Q I h => ?_⟩
  refine PySem.W.methodCall_KW (ld_glob I hg hm ?_ hdb) hc
  obtain ⟨m, fr⟩ := I.fr
  refine PySem.W.method_of_cls fr I.ok.mod.kin ga (PySem.W.cls_val fr I.ok.mod.kin hT rd vV (by decide +kernel) ?_)
  show wpAny _ _ (callWith pos (Value.builtin "ValueError.__init__") [] (backTo pos (starEach (e :: es) X.env)) []) _ _ _
  refine PyProof.Rows.callWith_method1 (thn (ha.run pos pins _ σ H _ (I.tok _) h) fun us s1 ⟨vs, H1, I1, r1, a, C, ws, ev, hl, T, ea, q⟩ => ?_) he hpl
  subst ev
  cases r1 with
  | @cons _ u0 _ ur ra rw' =>
    obtain rfl : u0 = Value.ref a := ra
    have hlen : ur.length ≤ sizeLine := by
      rw [← Paired.length rw', sizeLine_eq]
      omega
    exact oinit_ok T I1 ea hlen fun s' J => ⟨.non, H1, J, rfl, q⟩
end
end L2
namespace Gs
open PySem L2
/-- an __init__ that keeps its fields ns (the last one stored first in the list) -/
def spXI (K : PySem.W.Frag) (C : Addr) (ns : List Str) : Sp := fun vs H Q E => ∃ (a : Addr) (w : V) (ys : List V), vs = .ref a :: w :: ys ∧ ys.length = ns.length ∧ OexC K C ∧ H a = some (exo a C none) ∧
  ∀ (H' : Hp) (dx : Addr), H dx = none → dx ≠ a → H' a = some (exo a C (some dx)) → H' dx = some (exd dx (ns.zip ys).reverse) → (∀ b, b ≠ a → b ≠ dx → H' b = H b) → Q .non H'
/-- an own exception class with fields -/
structure XF (K : PySem.W.Frag) (mg : Str → Option Value) (ct : String → Addr) (c : String) : Prop where
  g : mg (Str.ofString c) = some (.ref (ct c))
  ox : OexC K (ct c)
  fi : ∃ fI, PySem.W.findIn K (.ref (ct c)) "__init__" = some (some (.ref fI)) ∧ PySem.W.typeIn K (.ref fI) = some (.type "function")
def sRaiseF (c : String) (ns : List Str) (a : As) : S := fun δ s => sBind (a δ s) δ fun ds s1 => match ds with
  | _ :: ys => if ys.length = ns.length ∧ ns.length ≤ 10 ∧ ns ≠ [] then .exc ⟨c, (ns.zip ys).reverse⟩ δ s1 else .stk
  | [] => .stk
theorem repP_rev {κ : Type} {K : PySem.W.Frag} {ct : String → Addr} {G : Hp} {m : Nat → Option Addr} {ds : List (κ × D)} {vs : List (κ × V)} (r : RepP K ct G m ds vs) : RepP K ct G m ds.reverse vs.reverse := by
  induction r with
  | nil => exact .nil
  | cons h _ ih =>
    rw [List.reverse_cons, List.reverse_cons]
    exact ih.append (.cons h .nil)
section
variable {X : Cx} {C : Cc}
theorem ss_raiseF {c : String} {cx : Str} {fI : Addr} {fd : FuncData} {ps ns : List Str} {k : Nat} {e : Expr} {es : List Expr} {fa : As} {p pos1 pos : Pos} (hcx : Str.ofString c = cx) (hc : X.calm = true) (tk : Takes X C.W) (T : OexC X.K (C.ct c)) (iC : PySem.W.findIn X.K (.ref (C.ct c)) "__init__" = some (some (.ref fI)))
    (tI : PySem.W.typeIn X.K (.ref fI) = some (.type "function")) (F1 : FnOk X.prog X.w X.K X.mg X.base (L2.CX X.prog X.w) k fI fd ps (spXI X.K (C.ct c) ns)) (hr : Room (k + 1) X.A) (hb : Binds X.K fd ps []) (hg : Gl X cx) (hm : X.mg cx = some (.ref (C.ct c)))
    (ha : SA X C (e :: es) fa) (hdb : (cx == ("__debug__" : Str)) = false := by decide) (he : starEach (e :: es) X.env = (false, eval e X.env) :: starEach es X.env := by rfl) (hpl : (backTo pos1 (starEach es X.env)).any (·.1) = false := by rfl) :
    SS X C (.Raise (some (.Call (.Name cx p) (e :: es) [] pos1)) none pos) (sRaiseF c ns fa) := by
  refine ps_weak (ps_raise hc tk (pmk_oex (CX := L2.CX X.prog X.w) T iC tI F1 hr hb .nil (passes_call (E := fun _ _ _ => False) tk (fun _ _ _ _ z => z.elim)) hg hm ha hdb he hpl)) fun Dn σ H ⟨δ, v, re, eH, h⟩ => ?_
  refine ⟨δ, v, re, eH, ?_⟩
  refine on_mono (onS_R re h) fun ds vs v1 l1 s1 r1 h1 => ?_
  cases r1 with
  | nil => exact h1.elim
  | @cons _ _ d0 w ys us rw ry =>
    simp only at h1
    split at h1
    · rename_i hz
      obtain ⟨hz1, hz2, hz3⟩ := hz
      have hl := ry.length
      refine ⟨by simp only [List.length_cons]; omega, fun a na => ⟨a, w, us, by simp, by omega, T, upd_same, fun H' dx hd hda h2 h3 h4 => ⟨rfl, dx, _, h2, h3, ?_, ?_⟩⟩⟩
      · rwa [upd_ne hda] at hd
      · have hd1 : v1.H dx = none := by rwa [upd_ne hda] at hd
        have eH : upd (del H' a) dx (.xd (ns.zip us).reverse) = (v1.new dx (.xd (ns.zip us).reverse)).H := by
          funext b
          show upd (del H' a) dx _ b = upd v1.H dx _ b
          by_cases b1 : b = dx
          · rw [b1, upd_same, upd_same]
          · rw [upd_ne b1, upd_ne b1]
            by_cases b2 : b = a
            · rw [b2, del_same, na]
            · rw [del_ne b2, h4 b b2 b1, upd_ne b2]
        obtain ⟨l2, s2⟩ := new_ok (o := .xd (ns.zip us).reverse) s1 hd1
        rw [eH]
        refine h1 (.ref (C.ct c)) (some dx) σ (v1.new dx (.xd (ns.zip us).reverse)) ((re.step l1 s1).step l2 s2) l2 rfl ⟨rfl, .inr ⟨?_, dx, _, rfl, upd_same, ?_⟩⟩
        · intro z
          have z2 := congrArg List.length z
          simp only [List.length_reverse, List.length_zip, List.length_nil] at z2
          have : 0 < ns.length := List.length_pos_iff.mpr hz3
          omega
        · exact repP_rev (RepP.zip (l2.repl ry))
    · exact h1.elim
end
end Gs

/-! GXs: except suites in which the exception is a thing as others; its fields; isinstance. -/
namespace L2
open PySem PySem.Spec PyProof.Rows
/-- what the clause wishes: its suite runs with the exception told at a -/
def wSu (K : PySem.W.Frag) (c : Value) (i : Nat) (ts : Addr → Value → Option Addr → TS) (Wo : WX) (D : Ends) : WX := fun cls d σ H => ∃ b, PySem.W.exmOne K cls c = some b ∧
  (b = true → ∀ a, H a = none → ts a cls d { nx := fun σ H => D.nx (σ.set i none) H, rt := D.rt, bk := fun σ H => D.bk (σ.set i none) H, ct := fun σ H => D.ct (σ.set i none) H } (σ.set i (some (.ref a))) (upd H a (EvK cls d a))) ∧ (b = false → Wo cls d σ H)
section
variable {X : Cx} {pins : List (Addr × Obj)} {σ : St} {H : Hp} {s : Shared}
theorem Inv.suite0 (I : Inv X pins σ H s) (a : Addr) : Inv (X.suite a (X.pn ++ pins)) [] σ H s :=
  ⟨I.ok.suite _ _, I.os, I.bare, I.base, I.loc, I.cell, I.free, I.freeC, fun p hp => I.pin p (by rw [List.append_nil] at hp; exact hp), I.hok, I.len⟩
theorem Inv.unsuite0 {a : Addr} {pn' : List (Addr × Obj)} (I : Inv (X.suite a (X.pn ++ pins)) pn' σ H s) (ok : X.Ok) : Inv X pins σ H s :=
  ⟨ok, I.os, I.bare, I.base, I.loc, I.cell, I.free, I.freeC, fun p hp => I.pin p (List.mem_append_left _ hp), I.hok, I.len⟩
end
section
variable {X : Cx} {x n : Str} {c : Value} {i : Nat} {body suite : List Stmt} {st₀ : Stmt} {np pos pos' : Pos} {tb : WX → TS} {ts : Addr → Value → Option Addr → TS} {Wo : WX}
theorem ps_try_suite (hs : X.stack = X.env :: X.outer) (hf : X.env.frame = some X.env.locals) (hN : X.N.Nodup) (hi : X.N[i]? = some n) (hln : X.env.kindOf n = some .local) (hx0 : X.ex = []) (hc : Names X x c) (tk : Takes X Wo)
    (hb : ∀ (W : WX) (pn : List (Addr × Obj)) (xe : Value → Shared → Prop), Takes (X.tr pn xe) W → PassesOwn (model X.prog X.w) X.A X.env xe → PSs (X.tr pn xe) body (tb W))
    (hsu : ∀ (a : Addr) (cls : Value) (d : Option Addr) (pn : List (Addr × Obj)), PSs (X.suite a pn) (st₀ :: suite) (ts a cls d)) :
    PS X (.Try body [.ExceptHandler (some (.Name x np)) (some n) (st₀ :: suite) pos'] [] [] pos) (fun D σ H => tb (wSu X.K c i ts Wo D) D σ H) := by
  refine ⟨fun pins s σ H D I0 hpre => ?_⟩
  have okX := I0.ok
  have frames : X.A.frames = some (X.env :: X.outer) := by rw [okX.frames, hs]
  refine wpAny_Try_except ?_
  have bodyRun := (hb (wSu X.K c i ts Wo D) (X.pn ++ pins) (fun e z1 => wpAny (model X.prog X.w) X.A (noteFrame e X.env) (fun _ z2 => wpAny (model X.prog X.w) X.A (setFlight e none)
      (fun _ z3 => wpAny (model X.prog X.w) X.A (handleBy e X.env [.ExceptHandler (some (.Name x np)) (some n) (st₀ :: suite) pos']) (SP X pins D) X.xe z3) X.xe z2) X.xe z1) (fun u z xx => ?_) PassesOwn.looking).run [] s σ H D (I0.toTry _) hpre
  · refine wpAny_mono bodyRun (fun fl z1 hsp => ?_) (fun _ _ he => he)
    cases fl with
    | next =>
      obtain ⟨σ1, H1, J1, q1⟩ := hsp
      exact wpAny_execs_nil ⟨σ1, H1, J1.ofTry okX, q1⟩
    | brk =>
      obtain ⟨σ1, H1, J1, q1⟩ := hsp
      exact ⟨σ1, H1, J1.ofTry okX, q1⟩
    | cont =>
      obtain ⟨σ1, H1, J1, q1⟩ := hsp
      exact ⟨σ1, H1, J1.ofTry okX, q1⟩
    | ret u =>
      obtain ⟨v1, σ1, H1, J1, r1, q1⟩ := hsp
      exact ⟨v1, σ1, H1, J1.ofTry okX, r1, q1⟩
  · obtain ⟨a, B, sI, pins', σc, Hc, cls, d, rfl, Jt, nb, up, sky, na, osE, ag, b, hb1, hyes, hno⟩ := xx
    have J : Inv X pins σc Hc sI := Jt.ofTry okX
    have skyE : Sky B (X.env :: X.outer) a (Zc cls d) X.env.locals z.heap := by rw [← hs]; exact sky
    have nB : B.get? a = none := by rcases skyE with q | q | q <;> exact q.2.1
    show wpAny (model X.prog X.w) X.A (noteFrame (.ref a) X.env) _ _ _
    refine Sky.land Zc.steady frames hf skyE fun hp3 fly3 up3 => ?_
    have K3 : Inv X pins σc Hc { z with heap := hp3 } := J.landed nb fly3.1 (up.trans up3) osE ag
    obtain ⟨oe3, vs3, g3, zc3, d3⟩ := fly3.there
    have notFrame : a ∉ frs (X.env :: X.outer) := fun hm => by
      obtain ⟨_, o', e', hnf⟩ := fly3.2.2.1.mem hm
      rw [g3] at e'
      cases e'
      exact hnf _ d3
    have nL : a ≠ X.env.locals := fun w => notFrame (List.mem_filterMap.mpr ⟨X.env, List.mem_cons_self, by rw [hf, w]⟩)
    have nF : a ∉ X.fs := fun hm => by
      obtain ⟨e, he, q⟩ := List.mem_filterMap.mp hm
      exact notFrame (List.mem_filterMap.mpr ⟨e, List.mem_cons_of_mem _ he, q⟩)
    have nI : sI.heap.get? a = none := by
      cases w : sI.heap.get? a with
      | none => rfl
      | some ob =>
        have w2 := nb a ob w (by rw [hs]; exact notFrame)
        rw [nB] at w2
        cases w2
    have n0 : X.s_0.heap.get? a = none := by
      cases w : X.s_0.heap.get? a with
      | none => rfl
      | some ob =>
        obtain ⟨o', w2⟩ := J.base.there a ob w (by rw [hx0]; simp)
        rw [nI] at w2
        cases w2
    have npin : ∀ p ∈ X.pn ++ pins, p.1 ≠ a := fun p hp w => by
      have w2 := (J.pin p hp).1
      rw [w, nI] at w2
      cases w2
    refine wpAny_handleBy_cons (codeAny_handlers_test ?_) (by intro q; cases q)
    have LT : PySem.W.Looks (model X.prog X.w) hp3 (typeOf (.ref a)) cls := fun A Q E s k q => wpAny_typeOf_ref (k _ _ g3) (by rw [zc3.1]; exact q)
    have LM := PySem.W.exm_one (M := model X.prog X.w) (K3.kIn) LT hb1
    have S3 := K3.suite g3 d3 na nL nF
    have clsNamed : ∀ {Q : Value → Shared → Prop} {E : Value → Shared → Prop}, Q c { z with heap := hp3 } → wpAny (model X.prog X.w) (X.A.mark (some (.ref a))) (eval (.Name x np) X.env) Q E { z with heap := hp3 } := fun {Q E} q => by
      obtain ⟨hgl, hdbg, hm | ⟨hm, hv, hnn⟩⟩ := hc
      · exact ld_glob (X := X.suite a ((a, oe3) :: (X.pn ++ pins))) S3 hgl hm q hdbg
      · exact ld_blt (X := X.suite a ((a, oe3) :: (X.pn ++ pins))) S3 hgl hm hv q hnn hdbg
    refine clsNamed (LM.here ?_)
    cases b with
    | false =>
      show wpAny _ X.A (handleBy (.ref a) X.env []) _ _ _
      refine wpAny_handleBy_nil ?_
      obtain ⟨k1, k2, k3, oe, vs, T, oT, tsl, he, hz, hd, h1, hr⟩ := id fly3
      unfold PySem.passOn
      refine wpAny_bind (wpAny_field he hd h1 ?_)
      rw [if_neg (show ¬ ((Value.ref T == Value.none) = true) from by simp)]
      have fin : wpAny (model X.prog X.w) X.A (setFlight (.ref a) X.env.frame) (fun _ z4 => wpAny (model X.prog X.w) X.A (throw (.ref a) : Sem Flow) (SP X pins D) X.xe z4) X.xe { z with heap := hp3 } := by
        rw [hf]
        refine HandSPX.setFlight_upZ fly3 fun h4 hh4 up4 => wpAny_throw (tk _ _ ?_)
        exact ⟨a, B, sI, pins, σc, Hc, cls, d, rfl, J, nb, (up.trans up3).trans up4, .inr (.inr (by rw [hs]; exact hh4)), na, osE, ag, hno rfl⟩
      first
        | exact wpAny_bind (wpAny_pure (wpAny_bind fin))
        | exact wpAny_bind fin
    | true =>
      refine codeAny_handlers_suite_as ?_
      refine HandSPX.lands_againZ fly3 fun hp4 fly4 up4 => ?_
      have K4 : Inv X pins σc Hc { z with heap := hp4 } := J.landed nb fly4.1 ((up.trans up3).trans up4) osE ag
      obtain ⟨oe4, vs4, g4, zc4, d4⟩ := fly4.there
      have T4 := K4.track g4 d4 na n0 nL npin (evK_ok g4 zc4 d4)
      have S4 := T4.suite0 a
      refine store_ok (X := X.suite a (X.pn ++ pins)) (v := .ref a) S4 hN hi (.inl hln) rfl (fun z5 S5 => ?_) (.inr hln)
      have run := (hsu a cls d (X.pn ++ pins)).run [] z5 _ (upd Hc a (EvK cls d a)) _ S5 (hyes rfl a na)
      refine wpAny_mono run (fun fl z6 hsp => ?_) (fun _ _ w => False.elim w)
      have leave : ∀ {σ6 : St} {H6 : Hp} {Q : Shared → Prop}, Inv (X.suite a (X.pn ++ pins)) [] σ6 H6 z6 → (∀ z7, Inv X pins (σ6.set i none) H6 z7 → Q z7) →
          wpAny (model X.prog X.w) X.A (do bindName X.env n .none; unbindBehindTheSuite X.env n pos') (fun _ z7 => Q z7) X.xe z6 := fun {σ6 H6 Q} S6 hq => gone_ok (S6.unsuite0 okX) hN hi hln hq
      cases fl with
      | next =>
        obtain ⟨σ6, H6, S6, q6⟩ := hsp
        exact leave S6 fun z7 J7 => ⟨_, _, J7, q6⟩
      | brk =>
        obtain ⟨σ6, H6, S6, q6⟩ := hsp
        exact leave S6 fun z7 J7 => ⟨_, _, J7, q6⟩
      | cont =>
        obtain ⟨σ6, H6, S6, q6⟩ := hsp
        exact leave S6 fun z7 J7 => ⟨_, _, J7, q6⟩
      | ret u =>
        obtain ⟨v6, σ6, H6, S6, r6, q6⟩ := hsp
        exact leave S6 fun z7 J7 => ⟨_, _, _, J7, r6, q6⟩
end
end L2
namespace Gs
open PySem L2
def evD (e : Ex) : D := .ev e.cls (e.fs.map (·.1)) (e.fs.map (·.2))
theorem repx_ev {K : PySem.W.Frag} {ct : String → Addr} {v : Vw} {e : Ex} {cls : Value} {dd : Option Addr} {a : Addr} (sr : SR K ct v) (rx : RepX K ct v e cls dd) (na : v.H a = none) : Rep K ct (v.new a (EvO cls dd a)).G v.m (evD e) (.ref a) := by
  obtain ⟨hc, hf⟩ := rx
  have ga : v.G a = none := sr.free na
  rcases hf with ⟨h1, h2⟩ | ⟨h1, d, fs, h2, h3, h4⟩
  · subst h2
    have : evD e = .ev e.cls [] [] := by unfold evD; rw [h1]; rfl
    rw [this]
    exact .ev0 (by rw [← hc]; exact upd_same)
  · subst h2
    have hd : d ≠ a := fun z => by rw [z, ga] at h3; cases h3
    have k := h4.keys
    refine .ev (d := d) (vs := fs.map (·.2)) (fun z => h1 (List.map_eq_nil_iff.mp z)) (by rw [← hc]; exact upd_same) ?_ (by simp) ?_
    · show upd v.G a _ d = _
      rw [upd_ne hd, h3, k, zip_unzip]
    · exact (h4.vals).mono (same_new ga _) .refl
/-- try: body except C as e: suite -/
def sTryS (t : String → Option Bool) (i : Nat) (fb fs : S) : S := fun δ s => match fb δ s with
  | .exc e δ' s' => (match t e.cls with
    | some true => (match fs (δ'.set i (some (evD e))) s' with
      | .nx δ2 s2 => .nx (δ2.set i none) s2
      | .bk δ2 s2 => .bk (δ2.set i none) s2
      | .ct δ2 s2 => .ct (δ2.set i none) s2
      | .rt d s2 => .rt d s2
      | _ => .stk)
    | some false => .exc e δ' s'
    | none => .stk)
  | r => r
section
variable {X : Cx} {C : Cc}
theorem ss_try_suite {x n : Str} {c : Value} {t : String → Option Bool} {i : Nat} {body suite : List Stmt} {b₀ : Stmt} {np pos' pos : Pos} {fb fs : S} (hs : X.stack = X.env :: X.outer) (hf : X.env.frame = some X.env.locals) (hN : X.N.Nodup) (hi : X.N[i]? = some n) (hln : X.env.kindOf n = some .local) (hx0 : X.ex = [])
    (hc : Names X x c) (tk : Takes X C.W) (ht : ∀ s b, t s = some b → PySem.W.exmOne X.K (.ref (C.ct s)) c = some b)
    (hb : ∀ (W : WX) (pn : List (Addr × Obj)) (xe : Value → Shared → Prop), Takes (X.tr pn xe) W → PassesOwn (model X.prog X.w) X.A X.env xe → SSs (X.tr pn xe) { C with W := W } body fb)
    (hsu : ∀ (a : Addr) (pn : List (Addr × Obj)), SSs (X.suite a pn) C.nox (b₀ :: suite) fs) :
    SS X C (.Try body [.ExceptHandler (some (.Name x np)) (some n) (b₀ :: suite) pos'] [] [] pos) (sTryS t i fb fs) := by
  refine ⟨fun pins s σ H Dn I h => ?_⟩
  refine (ps_try_suite (tb := fun W => liftS X.K { C with W := W } fb) (ts := fun a cls d => liftS X.K C.nox fs) hs hf hN hi hln hx0 hc tk hb fun a cls d pn => hsu a pn).run pins s σ H Dn I ?_
  obtain ⟨δ, v, re, eH, h⟩ := h
  refine ⟨δ, v, re.wish2, eH, ?_⟩
  unfold sTryS at h
  cases e : fb δ v.st with
  | nx δ' s' => rw [e] at h; exact fun σ' v' re l es => h σ' v' re.wish2 l es
  | bk δ' s' => rw [e] at h; exact fun σ' v' re l es => h σ' v' re.wish2 l es
  | ct δ' s' => rw [e] at h; exact fun σ' v' re l es => h σ' v' re.wish2 l es
  | rt d s' => rw [e] at h; exact h
  | stk => rw [e] at h; exact h.elim
  | exc ex δ' s' =>
    rw [e] at h
    simp only at h
    intro cls dd σ' v' re' l' es rx
    cases q : t ex.cls with
    | none => rw [q] at h; exact h.elim
    | some bb =>
      rw [q] at h
      refine ⟨bb, by rw [rx.1]; exact ht _ _ q, fun hb => ?_, fun hb => ?_⟩
      · subst hb
        intro a ha
        simp only at h
        obtain ⟨l2, s2⟩ := new_ok (o := EvO cls dd a) re'.sr ha
        have rep := repx_ev re'.sr rx ha
        have l3 := l'.trans l2
        refine ⟨δ'.set i (some (evD ex)), v'.new a (EvO cls dd a), ((re'.step l2 s2).setV i rep).wish2, rfl, ?_⟩
        have es2 : (v'.new a (EvO cls dd a)).st = s' := es
        rw [es2]
        cases ef : fs (δ'.set i (some (evD ex))) s' with
        | nx δ2 s2 => rw [ef] at h; exact fun σ2 w re2 l4 e4 => h _ w ((re2.setU i none).wish2) (l3.trans l4) e4
        | bk δ2 s2 => rw [ef] at h; exact fun σ2 w re2 l4 e4 => h _ w ((re2.setU i none).wish2) (l3.trans l4) e4
        | ct δ2 s2 => rw [ef] at h; exact fun σ2 w re2 l4 e4 => h _ w ((re2.setU i none).wish2) (l3.trans l4) e4
        | rt d s2 => rw [ef] at h; exact fun x w l4 s4 e4 r4 => h x w l4 s4 e4 r4
        | exc _ _ _ => rw [ef] at h; exact h.elim
        | stk => rw [ef] at h; exact h.elim
      · subst hb
        exact h cls dd σ' v' re'.wish2 l' es rx
end
@[simp] theorem v_sTryS (t : String → Option Bool) (i : Nat) (fb fs : S) (δ : Sl) (s : Sto) : sTryS t i fb fs δ s = (match fb δ s with
  | .exc e δ' s' => (match t e.cls with
    | some true => (match fs (δ'.set i (some (evD e))) s' with
      | .nx δ2 s2 => .nx (δ2.set i none) s2
      | .bk δ2 s2 => .bk (δ2.set i none) s2
      | .ct δ2 s2 => .ct (δ2.set i none) s2
      | .rt d s2 => .rt d s2
      | _ => .stk)
    | some false => .exc e δ' s'
    | none => .stk)
  | r => r) := id rfl
end Gs
/-! ### fields of a kept exception; isinstance -/
namespace L2
open PySem PySem.Spec PyProof.Rows
theorem pe_evf {X : Cx} {e : Expr} {te : TE} {pos : Pos} {n : Str} (he : PE X e te) (hb : attributeBase e n X.env (eval e X.env) = eval e X.env := by rfl) :
    PE X (.Attribute e n pos) (fun σ H Q => te σ H fun x H1 => ∃ (a C dd : Addr) (fs : List (Str × V)) (v : V), x = .ref a ∧ XfC X.K C ∧ PySem.W.findIn X.K (.ref C) n = some none ∧ H1 a = some (EvK (.ref C) (some dd) a) ∧ H1 dd = some (.xd fs) ∧ fs.lookup n = some v ∧ Q v H1) := by
  refine ⟨fun pins s σ H Q I h => ?_⟩
  refine attr_of hb (thn (he.run pins s σ H _ I h) fun u s1 hh => ?_)
  obtain ⟨x, H1, I1, rx, a, C, dd, fs, v, ex, T, hno, eh, ea, l, q⟩ := hh
  subst ex
  obtain rfl : u = Value.ref a := rx
  obtain ⟨⟨oe, vs, ha, hz, hd⟩, _⟩ := (show ObjOk X.prog X.w H1 s1.heap a (EvK (.ref C) (some dd) a) from I1.hok a _ eh)
  have hx : ObjOk X.prog X.w H1 s1.heap dd (.xd fs) := I1.hok dd _ ea
  obtain ⟨mA, hns, hr⟩ := hx
  obtain ⟨od, ho, hl⟩ := lookIn_ns hns
  obtain ⟨u, hu, ru⟩ := RelO.some_of (v := v) (o := mA n) (by rw [← l]; exact hr n)
  have J : PySem.W.InstAt s1.heap a oe C (some od) := ⟨ha, hz.1, by unfold PySem.W.notCls; rw [hd] <;> rfl, by rw [hz.2]; exact ho⟩
  exact HandSPX.exc_get I1.kIn J T.ga T.gg T.exC (PySem.W.findObj_own T.hdC hno rfl (by rw [hl, hu])) (handed_of ru) ⟨v, H1, I1.tok _, ru, q⟩
end L2
namespace Gs
open PySem L2
/-- what is known of the classes whose field n is read -/
def XFd (K : PySem.W.Frag) (ct : String → Addr) (n : Str) (t : String → Bool) : Prop := ∀ c, t c = true → XfC K (ct c) ∧ PySem.W.findIn K (.ref (ct c)) n = some none
def gFdE (n : Str) (t : String → Bool) : D → Option D
  | .ev c ks ds => if t c = true then (ks.zip ds).lookup n else none
  | _ => none
def eFdE (n : Str) (t : String → Bool) (f : E) : E := fun δ s => (f δ s).bind fun d s1 => R.ofO (gFdE n t d) s1
section
variable {X : Cx} {C : Cc}
theorem se_evf {e : Expr} {f : E} {n : Str} {pos : Pos} {t : String → Bool} (ht : XFd X.K C.ct n t) (he : SE X C e f) (hb : attributeBase e n X.env (eval e X.env) = eval e X.env := by rfl) : SE X C (.Attribute e n pos) (eFdE n t f) :=
  pe_weak (pe_evf he hb) fun σ H Q ⟨δ, v, re, eH, h⟩ => ⟨δ, v, re, eH, on_mono (on_bind h) fun d x v1 l1 s1 r1 h1 => by
    obtain ⟨z, ez, h9⟩ := on_ofO h1
    cases r1 with
    | ev0 hG =>
      simp only [gFdE] at ez
      split at ez <;> simp at ez
    | @ev _ _ a dd vs c ks ds hn hG hG2 hl hr =>
      simp only [gFdE] at ez
      split at ez
      · rename_i tc
        obtain ⟨T, hno⟩ := ht c tc
        have rp : RepP X.K C.ct v1.G v1.m (ks.zip ds) (ks.zip vs) := RepP.zip hr
        rcases rp.lookup (x := n) with ⟨q1, _⟩ | ⟨d1, y1, q1, q2, q3⟩
        · rw [q1] at ez; cases ez
        · rw [q1] at ez
          cases ez
          exact ⟨a, C.ct c, dd, _, y1, rfl, T, hno, s1.sub _ _ hG, s1.sub _ _ hG2, q2, h9 _ v1 .refl s1 rfl q3⟩
      · cases ez
    | _ => cases ez⟩
/-! isinstance of an exception, with fields or without -/
def rIsEw (K : PySem.W.Frag) : List V → Hp → VK → Prop := fun xs H Q => ∃ (a D : Addr) (dd : Addr) (fs : List (Str × V)) (c : V) (cv : Value) (b : Bool), xs = [.ref a, c] ∧ ClsV c cv ∧ H a = some (EvO (.ref D) (some dd) a) ∧ H dd = some (.xd fs) ∧ ExcC K D ∧ PySem.W.kitOne K (.ref D) cv = some b ∧ Q (.bl b) H
theorem call_isEw : CallR X (.builtin "isinstance") (rIsEw X.K) := by
  intro pins s σ H xs us Q I r h
  obtain ⟨a, D, dd, fs, c, cv, b, rfl, hcv, hH, hdd, EC, e, q⟩ := h
  cases r with
  | cons rx rr =>
    cases rr with
    | cons rt rr =>
      cases rr
      cases rx
      have ec := hcv.eq rt
      subst ec
      obtain ⟨⟨oe, vs, hget, hz, hv⟩, _⟩ := (show ObjOk X.prog X.w H s.heap a (EvO (.ref D) (some dd) a) from I.hok a _ hH)
      have hx : ObjOk X.prog X.w H s.heap dd (.xd fs) := I.hok dd _ hdd
      obtain ⟨mA, hns, hr⟩ := hx
      obtain ⟨od, ho, hl⟩ := lookIn_ns hns
      have J : PySem.W.InstAt s.heap a oe D (some od) := ⟨hget, hz.1, by unfold PySem.W.notCls; rw [hv] <;> rfl, by rw [hz.2]; exact ho⟩
      have hcl : (PySem.W.clsIn X.K D).isSome = true := by
        have hd := EC.hd
        unfold PySem.W.hasDictIn at hd
        cases q : PySem.W.clsIn X.K D with
        | some c => rfl
        | none => rw [q] at hd; simp at hd
      exact PySem.W.kia_one (PySem.W.kitx_exc hcl EC.hg EC.hk EC.hs EC.ha EC.hn EC.ht EC.hm) I.kIn J e (fun z => nomatch z) fun tk => ⟨.bl b, H, I.kept (t' := tk) fun _ _ z => z, rfl, q⟩
theorem call_isV : CallR X (.builtin "isinstance") (fun xs H Q => rIsi X.K xs H Q ∨ rIsEv X.K xs H Q ∨ rIsEw X.K xs H Q) := fun pins s σ H xs us Q I r h =>
  h.elim (call_isi pins s σ H xs us Q I r) fun h => h.elim (call_isEv pins s σ H xs us Q I r) (call_isEw pins s σ H xs us Q I r)
/-- as gIsC, of exceptions with fields, too -/
def gIsD (tb : String → Option Bool) : B1
  | .non => some (.bl false)
  | .ev c _ _ => (tb c).map .bl
  | _ => none
theorem se_isD {C : Cc} {a : Expr} {fa : E} {pf pn pos : Pos} {nx : Str} {cV : V} {cv : Value} {tb : String → Option Bool} (ha : SE X C a fa) (hg : Gl X "isinstance") (hm : X.mg "isinstance" = none) (hc : PE X (.Name nx pn) (tC cV)) (hk : ClsV cV cv) (hE : EI X.K C.ct tb cv)
    (hvi : bootBuiltins "isinstance" = some (.builtin "isinstance") := by decide +kernel)
    (hs : starEach [a, .Name nx pn] X.env = (false, eval a X.env) :: starEach [.Name nx pn] X.env := by rfl) (hpl : (backTo pos (starEach [.Name nx pn] X.env)).any (·.1) = false := by rfl)
    (hs2 : starEach [.Name nx pn] X.env = (false, eval (.Name nx pn) X.env) :: starEach [] X.env := by rfl) :
    SE X C (.Call (.Name "isinstance" pf) [a, .Name nx pn] [] pos) (eUn (gIsD tb) fa) :=
  pe_weak (pe_callB call_isV hg hm hvi (pa_cons ha (pa_cons hc pa_nil hs2) hs) (by decide) (by decide) hs hpl) fun σ H Q h => by
    obtain ⟨δ, v8, re, eH, h1⟩ := lift_un h
    refine ⟨δ, v8, re, eH, on_mono h1 fun d x v1 l1 s1 r1 h2 => ?_⟩
    obtain ⟨v2, dx, d2, eH2, sr, e, r2, h2⟩ := h2
    rw [← eH2]
    cases r2 with
    | non =>
      simp only [gIsD, Option.some.injEq] at e
      subst e
      exact .inl ⟨.non, cV, .type "NoneType", cv, false, rfl, hk, .base .non, hE.non, h2 _ v2 .refl sr rfl (.bl _)⟩
    | @ev a0 c ks0 ds0 r3 =>
      simp only [gIsD] at e
      cases q : tb c with
      | none => rw [q] at e; exact nomatch e
      | some b =>
        rw [q] at e
        simp only [Option.map_some, Option.some.injEq] at e
        subst e
        obtain ⟨h3, h4⟩ := hE.ev c b q
        cases r3 with
        | ev0 hG => exact .inr (.inl ⟨a0, C.ct c, cV, cv, b, rfl, hk, sr.sub _ _ hG, h3, h4, h2 _ v2 .refl sr rfl (.bl _)⟩)
        | ev n hG hG2 hl hr => exact .inr (.inr ⟨a0, C.ct c, _, _, cV, cv, b, rfl, hk, sr.sub _ _ hG, sr.sub _ _ hG2, h3, h4, h2 _ v2 .refl sr rfl (.bl _)⟩)
    | _ => simp only [gIsD, reduceCtorEq] at e
end
@[simp] theorem v_isD_non (tb : String → Option Bool) : gIsD tb .non = some (.bl false) := id rfl
@[simp] theorem v_isD_ev (tb : String → Option Bool) (c : String) (ks : List Str) (ds : List D) : gIsD tb (.ev c ks ds) = (tb c).map .bl := id rfl
@[simp] theorem v_eFdE (n : Str) (t : String → Bool) (f : E) (δ : Sl) (s : Sto) : eFdE n t f δ s = (f δ s).bind fun d s1 => R.ofO (gFdE n t d) s1 := id rfl
@[simp] theorem v_sRaiseF (c : String) (ns : List Str) (a : As) (δ : Sl) (s : Sto) : sRaiseF c ns a δ s = sBind (a δ s) δ fun ds s1 => match ds with
  | _ :: ys => if ys.length = ns.length ∧ ns.length ≤ 10 ∧ ns ≠ [] then .exc ⟨c, (ns.zip ys).reverse⟩ δ s1 else .stk
  | [] => .stk := id rfl
end Gs

/-! GTe: try .. except C .. else (the caught one without a name). -/
namespace Gs
open PySem L2
def sTryE (t : String → Option Bool) (fb fu fo : S) : S := fun δ s => match fb δ s with
  | .nx δ' s' => fo δ' s'
  | .exc e δ' s' => (match t e.cls with
    | some true => (match fu δ' s' with
      | .exc _ _ _ => .stk
      | r => r)
    | some false => .exc e δ' s'
    | none => .stk)
  | r => r
section
variable {X : Cx} {C : Cc}
theorem ss_try_else {x : Str} {c : Value} {t : String → Option Bool} {body suite orelse : List Stmt} {b₀ : Stmt} {np pos' pos : Pos} {fb fu fo : S} (hs : X.stack = X.env :: X.outer) (hf : X.env.frame = some X.env.locals)
    (hc : Names X x c) (tk : Takes X C.W) (ht : ∀ s b, t s = some b → PySem.W.exmOne X.K (.ref (C.ct s)) c = some b)
    (hb : ∀ (W : WX) (pn : List (Addr × Obj)) (xe : Value → Shared → Prop), Takes (X.tr pn xe) W → PassesOwn (model X.prog X.w) X.A X.env xe → SSs (X.tr pn xe) { C with W := W } body fb)
    (hsu : ∀ (a : Addr) (pn : List (Addr × Obj)), SSs (X.suite a pn) C.nox (b₀ :: suite) fu) (ho : SSs X C orelse fo) :
    SS X C (.Try body [.ExceptHandler (some (.Name x np)) none (b₀ :: suite) pos'] orelse [] pos) (sTryE t fb fu fo) := by
  refine ⟨fun pins s σ H Dn I h => ?_⟩
  refine (ps_try_onlyE (tb := fun W => liftS X.K { C with W := W } fb) (ts := fun a cls d => liftS X.K C.nox fu) (u := liftS X.K C fo) ho hs hf hc tk hb fun a oe cls d pn _ _ => hsu a _).run pins s σ H Dn I ?_
  obtain ⟨δ, v, re, eH, h⟩ := h
  refine ⟨δ, v, re.wish2, eH, ?_⟩
  unfold sTryE at h
  cases e : fb δ v.st with
  | nx δ' s' =>
    rw [e] at h
    intro σ' v' re' l es
    simp only at h
    refine ⟨δ', v', re'.wish2, rfl, ?_⟩
    rw [es]
    cases ef : fo δ' s' with
    | nx δ2 s2 => rw [ef] at h; exact fun σ2 w re2 l4 e4 => h _ w re2.wish2 (l.trans l4) e4
    | bk δ2 s2 => rw [ef] at h; exact fun σ2 w re2 l4 e4 => h _ w re2.wish2 (l.trans l4) e4
    | ct δ2 s2 => rw [ef] at h; exact fun σ2 w re2 l4 e4 => h _ w re2.wish2 (l.trans l4) e4
    | rt d s2 => rw [ef] at h; exact fun x w l4 s4 e4 r4 => h x w l4 s4 e4 r4
    | exc ex δ2 s2 => rw [ef] at h; exact fun cls dd σ2 w re2 l4 e4 rx => h cls dd σ2 w re2.wish2 (l.trans l4) e4 rx
    | stk => rw [ef] at h; exact h.elim
  | bk δ' s' => rw [e] at h; exact fun σ' v' re l es => h σ' v' re.wish2 l es
  | ct δ' s' => rw [e] at h; exact fun σ' v' re l es => h σ' v' re.wish2 l es
  | rt d s' => rw [e] at h; exact h
  | stk => rw [e] at h; exact h.elim
  | exc ex δ' s' =>
    rw [e] at h
    simp only at h
    intro cls dd σ' v' re' l' es rx
    cases q : t ex.cls with
    | none => rw [q] at h; exact h.elim
    | some bb =>
      rw [q] at h
      refine ⟨bb, by rw [rx.1]; exact ht _ _ q, fun hb => ?_, fun hb => ?_⟩
      · subst hb
        intro a ha
        simp only at h
        refine ⟨δ', v', re'.wish2, rfl, ?_⟩
        rw [es]
        cases ef : fu δ' s' with
        | nx δ2 s2 => rw [ef] at h; exact fun σ2 w re2 l4 e4 => h _ w re2.wish2 (l'.trans l4) e4
        | bk δ2 s2 => rw [ef] at h; exact fun σ2 w re2 l4 e4 => h _ w re2.wish2 (l'.trans l4) e4
        | ct δ2 s2 => rw [ef] at h; exact fun σ2 w re2 l4 e4 => h _ w re2.wish2 (l'.trans l4) e4
        | rt d s2 => rw [ef] at h; exact fun x w l4 s4 e4 r4 => h x w l4 s4 e4 r4
        | exc _ _ _ => rw [ef] at h; exact h.elim
        | stk => rw [ef] at h; exact h.elim
      · subst hb
        exact h cls dd σ' v' re'.wish2 l' es rx
end
@[simp] theorem v_sTryE (t : String → Option Bool) (fb fu fo : S) (δ : Sl) (s : Sto) : sTryE t fb fu fo δ s = (match fb δ s with
  | .nx δ' s' => fo δ' s'
  | .exc e δ' s' => (match t e.cls with
    | some true => (match fu δ' s' with
      | .exc _ _ _ => .stk
      | r => r)
    | some false => .exc e δ' s'
    | none => .stk)
  | r => r) := id rfl
end Gs

/-! MCh: how many sets: plain mathematics. -/
namespace MCh
def ch : Nat → Nat → Nat
  | _, 0 => 1
  | 0, _ + 1 => 0
  | n + 1, k + 1 => ch n k + ch n (k + 1)
def fac : Nat → Nat
  | 0 => 1
  | n + 1 => fac n * (n + 1)
/-- n (n - 1) .., k of them -/
def fall (n : Nat) : Nat → Nat
  | 0 => 1
  | k + 1 => fall n k * (n - k)
theorem ch_0 (n : Nat) : ch n 0 = 1 := by cases n <;> rfl
theorem ch_small : ∀ {n k : Nat}, n < k → ch n k = 0
  | 0, k + 1, _ => rfl
  | n + 1, k + 1, h => by
    show ch n k + ch n (k + 1) = 0
    rw [ch_small (by omega), ch_small (by omega)]
theorem ch_self : ∀ n : Nat, ch n n = 1
  | 0 => rfl
  | n + 1 => by
    show ch n n + ch n (n + 1) = 1
    rw [ch_self n, ch_small (by omega)]
theorem ch_abs : ∀ n k : Nat, ch n (k + 1) * (k + 1) = ch n k * (n - k)
  | 0, 0 => rfl
  | 0, k + 1 => by
    show 0 * (k + 2) = 0 * (0 - (k + 1))
    simp
  | n + 1, 0 => by
    have ih : ch n 1 * 1 = ch n 0 * n := ch_abs n 0
    rw [ch_0] at ih
    show (ch n 0 + ch n 1) * 1 = ch (n + 1) 0 * (n + 1)
    rw [ch_0, ch_0]
    omega
  | n + 1, k + 1 => by
    have i1 := ch_abs n k
    have i2 := ch_abs n (k + 1)
    show (ch n (k + 1) + ch n (k + 2)) * (k + 2) = (ch n k + ch n (k + 1)) * (n + 1 - (k + 1))
    by_cases h : k + 1 ≤ n
    · obtain ⟨r, rfl⟩ : ∃ r, n = k + 1 + r := ⟨n - (k + 1), by omega⟩
      have e1 : k + 1 + r - k = r + 1 := by omega
      have e2 : k + 1 + r - (k + 1) = r := by omega
      have e3 : k + 1 + r + 1 - (k + 1) = r + 1 := by omega
      rw [e1] at i1
      rw [e2] at i2
      rw [e3, Nat.add_mul, Nat.add_mul, i2, ← i1]
      rw [← Nat.mul_add, ← Nat.mul_add]
      congr 1
      omega
    · have z1 : ch n (k + 1) = 0 := ch_small (by omega)
      have z2 : ch n (k + 2) = 0 := ch_small (by omega)
      rw [z1, z2]
      by_cases h2 : k ≤ n
      · have e : k = n := by omega
        subst e
        simp
      · rw [ch_small (by omega : n < k)]
        simp
theorem ch_fac (n : Nat) : ∀ k : Nat, ch n k * fac k = fall n k
  | 0 => by rw [ch_0]; rfl
  | k + 1 => by
    show ch n (k + 1) * (fac k * (k + 1)) = fall n k * (n - k)
    rw [← ch_fac n k, Nat.mul_comm (fac k), ← Nat.mul_assoc, ch_abs, Nat.mul_assoc, Nat.mul_comm (n - k), ← Nat.mul_assoc]
theorem ch_symm : ∀ (s a b : Nat), a + b = s → ch s a = ch s b
  | s, 0, b, h => by
    have e : b = s := by omega
    subst e
    rw [ch_0, ch_self]
  | s, a + 1, 0, h => by
    have e : a + 1 = s := by omega
    subst e
    rw [ch_0, ch_self]
  | 0, a + 1, b + 1, h => by omega
  | s + 1, a + 1, b + 1, h => by
    show ch s a + ch s (a + 1) = ch s b + ch s (b + 1)
    rw [ch_symm s a (b + 1) (by omega), ch_symm s (a + 1) b (by omega), Nat.add_comm]
theorem fac_pos : ∀ n : Nat, 0 < fac n
  | 0 => Nat.one_pos
  | n + 1 => Nat.mul_pos (fac_pos n) (Nat.succ_pos n)
theorem fall_le (n : Nat) : ∀ k : Nat, fall n k ≤ n ^ k
  | 0 => Nat.le_refl _
  | k + 1 => by
    show fall n k * (n - k) ≤ n ^ (k + 1)
    rw [Nat.pow_succ]
    exact Nat.mul_le_mul (fall_le n k) (Nat.sub_le _ _)
theorem ch_le (n k : Nat) : ch n k ≤ n ^ k := by
  have h := ch_fac n k
  have h2 := fall_le n k
  have h3 := Nat.le_mul_of_pos_right (ch n k) (fac_pos k)
  omega
theorem ch_lt {n k a : Nat} (h : n < 2 ^ a) : ch n k < 2 ^ (a * k + 1) := by
  have h1 := ch_le n k
  have h2 : n ^ k ≤ (2 ^ a) ^ k := Nat.pow_le_pow_left (Nat.le_of_lt h) k
  rw [← Nat.pow_mul] at h2
  have h3 : 2 ^ (a * k) < 2 ^ (a * k + 1) := Nat.pow_lt_pow_right (by omega) (by omega)
  omega
theorem ch_div (n k : Nat) : ch n k * (n - k) / (k + 1) = ch n (k + 1) := by
  rw [← ch_abs, Nat.mul_div_cancel _ (Nat.succ_pos k)]
theorem fall_zero {n : Nat} : ∀ {k : Nat}, n < k → fall n k = 0
  | 0, h => by omega
  | k + 1, h => by
    show fall n k * (n - k) = 0
    by_cases h2 : n < k
    · rw [fall_zero h2, Nat.zero_mul]
    · rw [show n - k = 0 by omega, Nat.mul_zero]
theorem ch_absorb (n k : Nat) : ch (n + 1) (k + 1) * (k + 1) = (n + 1) * ch n k := by
  have h := ch_abs n k
  show (ch n k + ch n (k + 1)) * (k + 1) = _
  rw [Nat.add_mul, h]
  by_cases h2 : k ≤ n
  · rw [← Nat.mul_add, Nat.mul_comm (n + 1)]
    congr 1
    omega
  · rw [ch_small (by omega : n < k)]
    simp
/-- how many bags -/
def bg (n m : Nat) : Nat := ch (n + m - 1) m
theorem bg_step (n k : Nat) : bg n (k + 1) * (k + 1) = bg n k * (n + k) := by
  unfold bg
  by_cases h : n + k = 0
  · have h1 : n = 0 := by omega
    have h2 : k = 0 := by omega
    subst h1 h2
    rfl
  · obtain ⟨N, hN⟩ : ∃ N, n + k = N + 1 := ⟨n + k - 1, by omega⟩
    rw [show n + (k + 1) - 1 = N + 1 by omega, show n + k - 1 = N by omega, ch_absorb, hN, Nat.mul_comm]
theorem bg_0 (n : Nat) : bg n 0 = 1 := ch_0 _
theorem bg_div (n k : Nat) : bg n k * (n + k) / (k + 1) = bg n (k + 1) := by
  rw [← bg_step, Nat.mul_div_cancel _ (Nat.succ_pos k)]
def gd (xs : List Nat) (k : Nat) : Nat := xs.getD k 0
/-- the rank of a set, of its first k numbers -/
def rkF (xs : List Nat) : Nat → Nat
  | 0 => 0
  | k + 1 => rkF xs k + ch (gd xs k) (k + 1)
def rk (xs : List Nat) : Nat := rkF xs xs.length
theorem gd_mem {xs : List Nat} {k : Nat} (h : k < xs.length) : gd xs k ∈ xs := by
  simp [gd, List.getD, h]
/-- a product of numbers -/
def pr (f : Nat → Int) : Nat → Int
  | 0 => 1
  | k + 1 => pr f k * f k
theorem pr_lt {f : Nat → Int} {a : Nat} : ∀ k, (∀ j, j < k → (f j).natAbs < 2 ^ a) → (pr f k).natAbs < 2 ^ (a * k + 1)
  | 0, _ => by
    show (1 : Int).natAbs < 2 ^ (a * 0 + 1)
    simp
  | k + 1, h => by
    show (pr f k * f k).natAbs < _
    rw [Int.natAbs_mul, show a * (k + 1) + 1 = (a * k + 1) + a by rw [Nat.mul_succ]; omega, Nat.pow_add]
    exact Nat.mul_lt_mul'' (pr_lt k fun j hj => h j (by omega)) (h k (by omega))
theorem pr_fall (n : Nat) : ∀ k, pr (fun i => (n : Int) - (i : Nat)) k = (fall n k : Nat)
  | 0 => rfl
  | k + 1 => by
    show pr (fun i => (n : Int) - (i : Nat)) k * ((n : Int) - (k : Nat)) = ((fall n k * (n - k) : Nat) : Int)
    rw [pr_fall n k]
    by_cases h : k ≤ n
    · rw [Int.natCast_mul, Int.ofNat_sub h]
    · rw [fall_zero (by omega)]
      simp
theorem pr_rise (n : Nat) : ∀ k, pr (fun i => (n : Int) + (i : Nat)) k = ((bg n k * fac k : Nat) : Int)
  | 0 => by
    rw [bg_0]
    rfl
  | k + 1 => by
    show pr (fun i => (n : Int) + (i : Nat)) k * ((n : Int) + (k : Nat)) = ((bg n (k + 1) * (fac k * (k + 1)) : Nat) : Int)
    rw [pr_rise n k, Nat.mul_comm (fac k), ← Nat.mul_assoc, bg_step, ← Int.natCast_add, ← Int.natCast_mul, Nat.mul_assoc, Nat.mul_comm (fac k), Nat.mul_assoc]
end MCh

namespace Law
open PySem L2 Gs
/-! the text by places -/
def topS (i : Nat) : Stmt := PySem.Challenge.pw_countgen_k62_drawn_values.main.body.getD i (.Pass ⟨0, 0, 0, 0⟩)
def clsS (i j : Nat) : Stmt := match topS i with
  | .ClassDef _ _ _ body _ _ _ _ _ _ _ => body.getD j (.Pass ⟨0, 0, 0, 0⟩)
  | s => s
abbrev s_l_alike : Stmt := topS 38
abbrev N_l_alike : List Str := ["_law_found", "_law_due", "_law_one", "_law_other"]
abbrev P_l_alike : List Str := ["_law_found", "_law_due"]
theorem sc_l_alike : FnScope N_l_alike P_l_alike (defScope s_l_alike) := ⟨rfl, rfl, rfl, by decide +kernel, rfl, by decide +kernel, by decide +kernel⟩
abbrev s_l_cell_at : Stmt := topS 33
abbrev N_l_cell_at : List Str := ["_law_script", "_law_k"]
abbrev P_l_cell_at : List Str := ["_law_script", "_law_k"]
theorem sc_l_cell_at : FnScope N_l_cell_at P_l_cell_at (defScope s_l_cell_at) := ⟨rfl, rfl, rfl, by decide +kernel, rfl, by decide +kernel, by decide +kernel⟩
abbrev s_l_count : Stmt := topS 35
abbrev N_l_count : List Str := ["_law_shape", "_law_size", "_law_count_here", "_law_k", "_law_most"]
abbrev P_l_count : List Str := ["_law_shape", "_law_size"]
theorem sc_l_count : FnScope N_l_count P_l_count (defScope s_l_count) := ⟨rfl, rfl, rfl, by decide +kernel, rfl, by decide +kernel, by decide +kernel⟩
abbrev s_Maker___init__ : Stmt := clsS 10 0
abbrev N_Maker___init__ : List Str := ["self", "within"]
abbrev P_Maker___init__ : List Str := ["self", "within"]
theorem sc_Maker___init__ : FnScope N_Maker___init__ P_Maker___init__ (defScope s_Maker___init__) := ⟨rfl, rfl, rfl, by decide +kernel, rfl, by decide +kernel, by decide +kernel⟩
abbrev s_AlikeMaker___init__ : Stmt := clsS 24 0
abbrev N_AlikeMaker___init__ : List Str := ["self", "within", "times"]
abbrev P_AlikeMaker___init__ : List Str := ["self", "within", "times"]
theorem sc_AlikeMaker___init__ : FnScope N_AlikeMaker___init__ P_AlikeMaker___init__ (defScope s_AlikeMaker___init__) := ⟨rfl, rfl, rfl, by decide +kernel, rfl, by decide +kernel, by decide +kernel⟩
abbrev s_PickMaker___init__ : Stmt := clsS 26 0
abbrev N_PickMaker___init__ : List Str := ["self", "within", "marks"]
abbrev P_PickMaker___init__ : List Str := ["self", "within", "marks"]
theorem sc_PickMaker___init__ : FnScope N_PickMaker___init__ P_PickMaker___init__ (defScope s_PickMaker___init__) := ⟨rfl, rfl, rfl, by decide +kernel, rfl, by decide +kernel, by decide +kernel⟩
abbrev s_RisingMaker___init__ : Stmt := clsS 22 0
abbrev N_RisingMaker___init__ : List Str := ["self", "within"]
abbrev P_RisingMaker___init__ : List Str := ["self", "within"]
theorem sc_RisingMaker___init__ : FnScope N_RisingMaker___init__ P_RisingMaker___init__ (defScope s_RisingMaker___init__) := ⟨rfl, rfl, rfl, by decide +kernel, rfl, by decide +kernel, by decide +kernel⟩
abbrev s_RowMaker___init__ : Stmt := clsS 13 0
abbrev N_RowMaker___init__ : List Str := ["self", "within", "k"]
abbrev P_RowMaker___init__ : List Str := ["self", "within"]
theorem sc_RowMaker___init__ : FnScope N_RowMaker___init__ P_RowMaker___init__ (defScope s_RowMaker___init__) := ⟨rfl, rfl, rfl, by decide +kernel, rfl, by decide +kernel, by decide +kernel⟩
abbrev s_TextMaker___init__ : Stmt := clsS 12 0
abbrev N_TextMaker___init__ : List Str := ["self", "signs"]
abbrev P_TextMaker___init__ : List Str := ["self", "signs"]
theorem sc_TextMaker___init__ : FnScope N_TextMaker___init__ P_TextMaker___init__ (defScope s_TextMaker___init__) := ⟨rfl, rfl, rfl, by decide +kernel, rfl, by decide +kernel, by decide +kernel⟩
abbrev s_UseMaker___init__ : Stmt := clsS 27 0
abbrev N_UseMaker___init__ : List Str := ["self", "named", "name"]
abbrev P_UseMaker___init__ : List Str := ["self", "named", "name"]
theorem sc_UseMaker___init__ : FnScope N_UseMaker___init__ P_UseMaker___init__ (defScope s_UseMaker___init__) := ⟨rfl, rfl, rfl, by decide +kernel, rfl, by decide +kernel, by decide +kernel⟩
abbrev s_WholeMaker___init__ : Stmt := clsS 11 0
abbrev N_WholeMaker___init__ : List Str := ["self", "low", "high"]
abbrev P_WholeMaker___init__ : List Str := ["self", "low", "high"]
theorem sc_WholeMaker___init__ : FnScope N_WholeMaker___init__ P_WholeMaker___init__ (defScope s_WholeMaker___init__) := ⟨rfl, rfl, rfl, by decide +kernel, rfl, by decide +kernel, by decide +kernel⟩
abbrev s_maker_of : Stmt := topS 28
abbrev N_maker_of : List Str := ["shape", "named", "kind", "within", "part", "branch"]
abbrev P_maker_of : List Str := ["shape", "named"]
theorem sc_maker_of : FnScope N_maker_of P_maker_of (defScope s_maker_of) := ⟨rfl, rfl, rfl, by decide +kernel, rfl, by decide +kernel, by decide +kernel⟩
abbrev s_Tables___init__ : Stmt := clsS 29 0
abbrev N_Tables___init__ : List Str := ["self", "book", "shape", "name", "own"]
abbrev P_Tables___init__ : List Str := ["self", "book", "shape"]
theorem sc_Tables___init__ : FnScope N_Tables___init__ P_Tables___init__ (defScope s_Tables___init__) := ⟨rfl, rfl, rfl, by decide +kernel, rfl, by decide +kernel, by decide +kernel⟩
abbrev s_Tables_counts_at : Stmt := clsS 29 2
abbrev N_Tables_counts_at : List Str := ["self", "size"]
abbrev P_Tables_counts_at : List Str := ["self", "size"]
theorem sc_Tables_counts_at : FnScope N_Tables_counts_at P_Tables_counts_at (defScope s_Tables_counts_at) := ⟨rfl, rfl, rfl, by decide +kernel, rfl, by decide +kernel, by decide +kernel⟩
abbrev s_AlikeMaker_next_count : Stmt := clsS 24 1
abbrev N_AlikeMaker_next_count : List Str := ["self", "size"]
abbrev P_AlikeMaker_next_count : List Str := ["self", "size"]
theorem sc_AlikeMaker_next_count : FnScope N_AlikeMaker_next_count P_AlikeMaker_next_count (defScope s_AlikeMaker_next_count) := ⟨rfl, rfl, rfl, by decide +kernel, rfl, by decide +kernel, by decide +kernel⟩
abbrev s_ManyMaker_next_count : Stmt := clsS 14 0
abbrev N_ManyMaker_next_count : List Str := ["self", "size", "firsts", "first"]
abbrev P_ManyMaker_next_count : List Str := ["self", "size"]
theorem sc_ManyMaker_next_count : FnScope N_ManyMaker_next_count P_ManyMaker_next_count (defScope s_ManyMaker_next_count) := ⟨rfl, rfl, rfl, by decide +kernel, rfl, by decide +kernel, by decide +kernel⟩
abbrev s_PickMaker_next_count : Stmt := clsS 26 1
abbrev N_PickMaker_next_count : List Str := ["self", "size", "maker"]
abbrev P_PickMaker_next_count : List Str := ["self", "size"]
theorem sc_PickMaker_next_count : FnScope N_PickMaker_next_count P_PickMaker_next_count (defScope s_PickMaker_next_count) := ⟨rfl, rfl, rfl, by decide +kernel, rfl, by decide +kernel, by decide +kernel⟩
abbrev s_RisingMaker_beyond : Stmt := clsS 22 4
abbrev N_RisingMaker_beyond : List Str := ["self", "least", "size"]
abbrev P_RisingMaker_beyond : List Str := ["self", "least", "size"]
theorem sc_RisingMaker_beyond : FnScope N_RisingMaker_beyond P_RisingMaker_beyond (defScope s_RisingMaker_beyond) := ⟨rfl, rfl, rfl, by decide +kernel, rfl, by decide +kernel, by decide +kernel⟩
abbrev s_sets_among : Stmt := topS 16
abbrev N_sets_among : List Str := ["n", "m", "found", "k"]
abbrev P_sets_among : List Str := ["n", "m"]
theorem sc_sets_among : FnScope N_sets_among P_sets_among (defScope s_sets_among) := ⟨rfl, rfl, rfl, by decide +kernel, rfl, by decide +kernel, by decide +kernel⟩
abbrev s_bags_among : Stmt := topS 17
abbrev N_bags_among : List Str := ["n", "m"]
abbrev P_bags_among : List Str := ["n", "m"]
theorem sc_bags_among : FnScope N_bags_among P_bags_among (defScope s_bags_among) := ⟨rfl, rfl, rfl, by decide +kernel, rfl, by decide +kernel, by decide +kernel⟩
abbrev s_RisingMaker_among : Stmt := clsS 22 1
abbrev N_RisingMaker_among : List Str := ["self", "many", "chosen"]
abbrev P_RisingMaker_among : List Str := ["self", "many", "chosen"]
theorem sc_RisingMaker_among : FnScope N_RisingMaker_among P_RisingMaker_among (defScope s_RisingMaker_among) := ⟨rfl, rfl, rfl, by decide +kernel, rfl, by decide +kernel, by decide +kernel⟩
abbrev s_UnlikeMaker_among : Stmt := clsS 23 0
abbrev N_UnlikeMaker_among : List Str := ["self", "many", "chosen"]
abbrev P_UnlikeMaker_among : List Str := ["self", "many", "chosen"]
theorem sc_UnlikeMaker_among : FnScope N_UnlikeMaker_among P_UnlikeMaker_among (defScope s_UnlikeMaker_among) := ⟨rfl, rfl, rfl, by decide +kernel, rfl, by decide +kernel, by decide +kernel⟩
abbrev s_RisingMaker_block : Stmt := clsS 22 5
abbrev N_RisingMaker_block : List Str := ["self", "least", "size", "chosen", "some"]
abbrev P_RisingMaker_block : List Str := ["self", "least", "size", "chosen"]
theorem sc_RisingMaker_block : FnScope N_RisingMaker_block P_RisingMaker_block (defScope s_RisingMaker_block) := ⟨rfl, rfl, rfl, by decide +kernel, rfl, by decide +kernel, by decide +kernel⟩
abbrev s_RisingMaker_next_count : Stmt := clsS 22 6
abbrev N_RisingMaker_next_count : List Str := ["self", "size", "least", "most", "chosen"]
abbrev P_RisingMaker_next_count : List Str := ["self", "size"]
theorem sc_RisingMaker_next_count : FnScope N_RisingMaker_next_count P_RisingMaker_next_count (defScope s_RisingMaker_next_count) := ⟨rfl, rfl, rfl, by decide +kernel, rfl, by decide +kernel, by decide +kernel⟩
abbrev s_RowMaker_next_count : Stmt := clsS 13 1
abbrev N_RowMaker_next_count : List Str := ["self", "size", "many", "k", "firsts", "rests", "first"]
abbrev P_RowMaker_next_count : List Str := ["self", "size"]
theorem sc_RowMaker_next_count : FnScope N_RowMaker_next_count P_RowMaker_next_count (defScope s_RowMaker_next_count) := ⟨rfl, rfl, rfl, by decide +kernel, rfl, by decide +kernel, by decide +kernel⟩
abbrev s_TextMaker_next_count : Stmt := clsS 12 1
abbrev N_TextMaker_next_count : List Str := ["self", "size"]
abbrev P_TextMaker_next_count : List Str := ["self", "size"]
theorem sc_TextMaker_next_count : FnScope N_TextMaker_next_count P_TextMaker_next_count (defScope s_TextMaker_next_count) := ⟨rfl, rfl, rfl, by decide +kernel, rfl, by decide +kernel, by decide +kernel⟩
abbrev s_UseMaker_next_count : Stmt := clsS 27 1
abbrev N_UseMaker_next_count : List Str := ["self", "size"]
abbrev P_UseMaker_next_count : List Str := ["self", "size"]
theorem sc_UseMaker_next_count : FnScope N_UseMaker_next_count P_UseMaker_next_count (defScope s_UseMaker_next_count) := ⟨rfl, rfl, rfl, by decide +kernel, rfl, by decide +kernel, by decide +kernel⟩
abbrev s_WholeMaker_next_count : Stmt := clsS 11 1
abbrev N_WholeMaker_next_count : List Str := ["self", "size", "first"]
abbrev P_WholeMaker_next_count : List Str := ["self", "size"]
theorem sc_WholeMaker_next_count : FnScope N_WholeMaker_next_count P_WholeMaker_next_count (defScope s_WholeMaker_next_count) := ⟨rfl, rfl, rfl, by decide +kernel, rfl, by decide +kernel, by decide +kernel⟩
abbrev s_Maker_grow : Stmt := clsS 10 1
abbrev N_Maker_grow : List Str := ["self", "maker"]
abbrev P_Maker_grow : List Str := ["self"]
theorem sc_Maker_grow : FnScope N_Maker_grow P_Maker_grow (defScope s_Maker_grow) := ⟨rfl, rfl, rfl, by decide +kernel, rfl, by decide +kernel, by decide +kernel⟩
abbrev s_Tables_grow_to : Stmt := clsS 29 1
abbrev N_Tables_grow_to : List Str := ["self", "size", "maker"]
abbrev P_Tables_grow_to : List Str := ["self", "size"]
theorem sc_Tables_grow_to : FnScope N_Tables_grow_to P_Tables_grow_to (defScope s_Tables_grow_to) := ⟨rfl, rfl, rfl, by decide +kernel, rfl, by decide +kernel, by decide +kernel⟩
abbrev s_greatest_below : Stmt := topS 18
abbrev N_greatest_below : List Str := ["m", "rank", "low", "high", "amid"]
abbrev P_greatest_below : List Str := ["m", "rank"]
theorem sc_greatest_below : FnScope N_greatest_below P_greatest_below (defScope s_greatest_below) := ⟨rfl, rfl, rfl, by decide +kernel, rfl, by decide +kernel, by decide +kernel⟩
abbrev s_set_at : Stmt := topS 19
abbrev N_set_at : List Str := ["m", "rank", "found", "size", "number"]
abbrev P_set_at : List Str := ["m", "rank"]
theorem sc_set_at : FnScope N_set_at P_set_at (defScope s_set_at) := ⟨rfl, rfl, rfl, by decide +kernel, rfl, by decide +kernel, by decide +kernel⟩
abbrev s_bag_at : Stmt := topS 20
abbrev N_bag_at : List Str := ["m", "rank", "k", "number"]
abbrev P_bag_at : List Str := ["m", "rank"]
theorem sc_bag_at : FnScope N_bag_at P_bag_at (defScope s_bag_at) := ⟨rfl, rfl, rfl, by decide +kernel, rfl, by decide +kernel, by decide +kernel⟩
abbrev s_RisingMaker_chosen_at : Stmt := clsS 22 2
abbrev N_RisingMaker_chosen_at : List Str := ["self", "chosen", "rank"]
abbrev P_RisingMaker_chosen_at : List Str := ["self", "chosen", "rank"]
theorem sc_RisingMaker_chosen_at : FnScope N_RisingMaker_chosen_at P_RisingMaker_chosen_at (defScope s_RisingMaker_chosen_at) := ⟨rfl, rfl, rfl, by decide +kernel, rfl, by decide +kernel, by decide +kernel⟩
abbrev s_TextMaker_told : Stmt := clsS 12 2
abbrev N_TextMaker_told : List Str := ["self", "size", "number", "found", "k", "place"]
abbrev P_TextMaker_told : List Str := ["self", "size", "number"]
theorem sc_TextMaker_told : FnScope N_TextMaker_told P_TextMaker_told (defScope s_TextMaker_told) := ⟨rfl, rfl, rfl, by decide +kernel, rfl, by decide +kernel, by decide +kernel⟩
abbrev s_WholeMaker_told : Stmt := clsS 11 2
abbrev N_WholeMaker_told : List Str := ["self", "size", "number"]
abbrev P_WholeMaker_told : List Str := ["self", "size", "number"]
theorem sc_WholeMaker_told : FnScope N_WholeMaker_told P_WholeMaker_told (defScope s_WholeMaker_told) := ⟨rfl, rfl, rfl, by decide +kernel, rfl, by decide +kernel, by decide +kernel⟩
abbrev s_first_taken : Stmt := topS 9
abbrev N_first_taken : List Str := ["firsts", "rests", "size", "number", "first", "place", "rest"]
abbrev P_first_taken : List Str := ["firsts", "rests", "size", "number"]
theorem sc_first_taken : FnScope N_first_taken P_first_taken (defScope s_first_taken) := ⟨rfl, rfl, rfl, by decide +kernel, rfl, by decide +kernel, by decide +kernel⟩
abbrev s_UnlikeMaker_chosen_at : Stmt := clsS 23 1
abbrev N_UnlikeMaker_chosen_at : List Str := ["self", "chosen", "rank"]
abbrev P_UnlikeMaker_chosen_at : List Str := ["self", "chosen", "rank"]
theorem sc_UnlikeMaker_chosen_at : FnScope N_UnlikeMaker_chosen_at P_UnlikeMaker_chosen_at (defScope s_UnlikeMaker_chosen_at) := ⟨rfl, rfl, rfl, by decide +kernel, rfl, by decide +kernel, by decide +kernel⟩
abbrev s_UseMaker_told : Stmt := clsS 27 2
abbrev N_UseMaker_told : List Str := ["self", "size", "number"]
abbrev P_UseMaker_told : List Str := ["self", "size", "number"]
theorem sc_UseMaker_told : FnScope N_UseMaker_told P_UseMaker_told (defScope s_UseMaker_told) := ⟨rfl, rfl, rfl, by decide +kernel, rfl, by decide +kernel, by decide +kernel⟩
abbrev s_RowMaker_told : Stmt := clsS 13 2
abbrev N_RowMaker_told : List Str := ["self", "size", "number", "found", "k", "maker", "first", "place"]
abbrev P_RowMaker_told : List Str := ["self", "size", "number"]
theorem sc_RowMaker_told : FnScope N_RowMaker_told P_RowMaker_told (defScope s_RowMaker_told) := ⟨rfl, rfl, rfl, by decide +kernel, rfl, by decide +kernel, by decide +kernel⟩
abbrev s_RisingMaker_told : Stmt := clsS 22 7
abbrev N_RisingMaker_told : List Str := ["self", "size", "number", "found", "least", "chosen", "rank", "place"]
abbrev P_RisingMaker_told : List Str := ["self", "size", "number"]
theorem sc_RisingMaker_told : FnScope N_RisingMaker_told P_RisingMaker_told (defScope s_RisingMaker_told) := ⟨rfl, rfl, rfl, by decide +kernel, rfl, by decide +kernel, by decide +kernel⟩
abbrev s_PickMaker_told : Stmt := clsS 26 2
abbrev N_PickMaker_told : List Str := ["self", "size", "number", "branch"]
abbrev P_PickMaker_told : List Str := ["self", "size", "number"]
theorem sc_PickMaker_told : FnScope N_PickMaker_told P_PickMaker_told (defScope s_PickMaker_told) := ⟨rfl, rfl, rfl, by decide +kernel, rfl, by decide +kernel, by decide +kernel⟩
abbrev s_ManyMaker_told : Stmt := clsS 14 1
abbrev N_ManyMaker_told : List Str := ["self", "size", "number", "found", "first", "place"]
abbrev P_ManyMaker_told : List Str := ["self", "size", "number"]
theorem sc_ManyMaker_told : FnScope N_ManyMaker_told P_ManyMaker_told (defScope s_ManyMaker_told) := ⟨rfl, rfl, rfl, by decide +kernel, rfl, by decide +kernel, by decide +kernel⟩
abbrev s_AlikeMaker_told : Stmt := clsS 24 2
abbrev N_AlikeMaker_told : List Str := ["self", "size", "number", "k"]
abbrev P_AlikeMaker_told : List Str := ["self", "size", "number"]
theorem sc_AlikeMaker_told : FnScope N_AlikeMaker_told P_AlikeMaker_told (defScope s_AlikeMaker_told) := ⟨rfl, rfl, rfl, by decide +kernel, rfl, by decide +kernel, by decide +kernel⟩
abbrev s_Tables_told : Stmt := clsS 29 3
abbrev N_Tables_told : List Str := ["self", "size", "number"]
abbrev P_Tables_told : List Str := ["self", "size", "number"]
theorem sc_Tables_told : FnScope N_Tables_told P_Tables_told (defScope s_Tables_told) := ⟨rfl, rfl, rfl, by decide +kernel, rfl, by decide +kernel, by decide +kernel⟩
abbrev s_fair : Stmt := topS 7
abbrev N_fair : List Str := ["numbers", "base", "count", "rest", "edge", "looked", "number"]
abbrev P_fair : List Str := ["numbers", "base", "count"]
theorem sc_fair : FnScope N_fair P_fair (defScope s_fair) := ⟨rfl, rfl, rfl, by decide +kernel, rfl, by decide +kernel, by decide +kernel⟩
abbrev s_drawn_values : Stmt := topS 31
abbrev N_drawn_values : List Str := ["book", "shape", "size", "numbers", "base", "tables", "count", "left", "values", "looked", "number"]
abbrev P_drawn_values : List Str := ["book", "shape", "size", "numbers", "base"]
theorem sc_drawn_values : FnScope N_drawn_values P_drawn_values (defScope s_drawn_values) := ⟨rfl, rfl, rfl, by decide +kernel, rfl, by decide +kernel, by decide +kernel⟩
abbrev s_l_refused : Stmt := topS 37
abbrev N_l_refused : List Str := ["_law_book", "_law_shape", "_law_size", "_law_numbers", "_law_base", "_law_error", "e"]
abbrev P_l_refused : List Str := ["_law_book", "_law_shape", "_law_size", "_law_numbers", "_law_base"]
theorem sc_l_refused : FnScope N_l_refused P_l_refused (defScope s_l_refused) := ⟨rfl, rfl, rfl, by decide +kernel, rfl, by decide +kernel, by decide +kernel⟩
abbrev s_l_signs : Stmt := topS 34
abbrev N_l_signs : List Str := ["_law_cell", "_law_many", "_law_some", "_law_k"]
abbrev P_l_signs : List Str := ["_law_cell", "_law_many"]
theorem sc_l_signs : FnScope N_l_signs P_l_signs (defScope s_l_signs) := ⟨rfl, rfl, rfl, by decide +kernel, rfl, by decide +kernel, by decide +kernel⟩
abbrev s_l_value : Stmt := topS 36
abbrev N_l_value : List Str := ["_law_shape", "_law_size", "_law_number", "_law_signs_here", "_law_k", "_law_place"]
abbrev P_l_value : List Str := ["_law_shape", "_law_size", "_law_number"]
theorem sc_l_value : FnScope N_l_value P_l_value (defScope s_l_value) := ⟨rfl, rfl, rfl, by decide +kernel, rfl, by decide +kernel, by decide +kernel⟩
abbrev s_law : Stmt := topS 39
abbrev N_law : List Str := ["_law_script", "_law_low", "_law_shape", "_law_size", "_law_book", "_law_count_here", "_law_base", "_law_first", "_law_numbers", "_law_due", "_law_number", "_law_handed", "_law_found", "_law_cell", "_law_k"]
abbrev P_law : List Str := ["_law_script"]
theorem sc_law : FnScope N_law P_law (defScope s_law) := ⟨rfl, rfl, rfl, by decide +kernel, rfl, by decide +kernel, by decide +kernel⟩
/-! what they say of data -/
def cl_counts (c : String) : Bool := decide (c = "WholeMaker") || (decide (c = "TextMaker") || (decide (c = "RowMaker") || (decide (c = "ManyMaker") || (decide (c = "RisingMaker") || (decide (c = "UnlikeMaker") || (decide (c = "AlikeMaker") || (decide (c = "PickMaker") || (decide (c = "UseMaker")))))))))
def cl_low (c : String) : Bool := decide (c = "WholeMaker")
def cl_marks (c : String) : Bool := decide (c = "PickMaker")
def cl_name (c : String) : Bool := decide (c = "UseMaker")
def cl_named (c : String) : Bool := decide (c = "UseMaker") || (decide (c = "Tables"))
def cl_rests (c : String) : Bool := decide (c = "RowMaker")
def cl_signs (c : String) : Bool := decide (c = "TextMaker")
def cl_span (c : String) : Bool := decide (c = "WholeMaker")
def cl_times (c : String) : Bool := decide (c = "AlikeMaker")
def cl_top (c : String) : Bool := decide (c = "Tables")
def cl_ways (c : String) : Bool := decide (c = "RisingMaker") || (decide (c = "UnlikeMaker"))
def cl_within (c : String) : Bool := decide (c = "WholeMaker") || (decide (c = "TextMaker") || (decide (c = "RowMaker") || (decide (c = "ManyMaker") || (decide (c = "RisingMaker") || (decide (c = "UnlikeMaker") || (decide (c = "AlikeMaker") || (decide (c = "PickMaker") || (decide (c = "UseMaker")))))))))
noncomputable def mt_among (f_RisingMaker_among f_UnlikeMaker_among : List D → Sto → R D) : Mt := fun c => if c = "RisingMaker" then some f_RisingMaker_among else if c = "UnlikeMaker" then some f_UnlikeMaker_among else none
noncomputable def mt_beyond (f_RisingMaker_beyond : List D → Sto → R D) : Mt := fun c => if c = "RisingMaker" then some f_RisingMaker_beyond else if c = "UnlikeMaker" then some f_RisingMaker_beyond else none
noncomputable def mt_block (f_RisingMaker_block : List D → Sto → R D) : Mt := fun c => if c = "RisingMaker" then some f_RisingMaker_block else if c = "UnlikeMaker" then some f_RisingMaker_block else none
noncomputable def mt_chosen_at (f_RisingMaker_chosen_at f_UnlikeMaker_chosen_at : List D → Sto → R D) : Mt := fun c => if c = "RisingMaker" then some f_RisingMaker_chosen_at else if c = "UnlikeMaker" then some f_UnlikeMaker_chosen_at else none
noncomputable def mt_counts_at_T (f_Tables_counts_at : List D → Sto → R D) : Mt := fun c => if c = "Tables" then some f_Tables_counts_at else none
noncomputable def mt_grow (f_Maker_grow : List D → Sto → R D) : Mt := fun c => if c = "WholeMaker" then some f_Maker_grow else if c = "TextMaker" then some f_Maker_grow else if c = "RowMaker" then some f_Maker_grow else if c = "ManyMaker" then some f_Maker_grow else if c = "RisingMaker" then some f_Maker_grow else if c = "UnlikeMaker" then some f_Maker_grow else if c = "AlikeMaker" then some f_Maker_grow else if c = "PickMaker" then some f_Maker_grow else if c = "UseMaker" then some f_Maker_grow else none
noncomputable def mt_grow_to_T (f_Tables_grow_to : List D → Sto → R D) : Mt := fun c => if c = "Tables" then some f_Tables_grow_to else none
noncomputable def mt_next_count (f_WholeMaker_next_count f_TextMaker_next_count f_RowMaker_next_count f_ManyMaker_next_count f_RisingMaker_next_count f_AlikeMaker_next_count f_PickMaker_next_count f_UseMaker_next_count : List D → Sto → R D) : Mt := fun c => if c = "WholeMaker" then some f_WholeMaker_next_count else if c = "TextMaker" then some f_TextMaker_next_count else if c = "RowMaker" then some f_RowMaker_next_count else if c = "ManyMaker" then some f_ManyMaker_next_count else if c = "RisingMaker" then some f_RisingMaker_next_count else if c = "UnlikeMaker" then some f_RisingMaker_next_count else if c = "AlikeMaker" then some f_AlikeMaker_next_count else if c = "PickMaker" then some f_PickMaker_next_count else if c = "UseMaker" then some f_UseMaker_next_count else none
noncomputable def mt_told_T (f_Tables_told : List D → Sto → R D) : Mt := fun c => if c = "Tables" then some f_Tables_told else none
noncomputable def mt_told (f_WholeMaker_told f_TextMaker_told f_RowMaker_told f_ManyMaker_told f_RisingMaker_told f_AlikeMaker_told f_PickMaker_told f_UseMaker_told : List D → Sto → R D) : Mt := fun c => if c = "WholeMaker" then some f_WholeMaker_told else if c = "TextMaker" then some f_TextMaker_told else if c = "RowMaker" then some f_RowMaker_told else if c = "ManyMaker" then some f_ManyMaker_told else if c = "RisingMaker" then some f_RisingMaker_told else if c = "UnlikeMaker" then some f_RisingMaker_told else if c = "AlikeMaker" then some f_AlikeMaker_told else if c = "PickMaker" then some f_PickMaker_told else if c = "UseMaker" then some f_UseMaker_told else none
def xt_NoDraw (s : String) : Option Bool := if s = "NoDraw" then some true else none
def tb_CountError (s : String) : Option Bool := if s = "NoDraw" then some true else none
def tb_NoNumber (s : String) : Option Bool := if s = "NoDraw" then some false else none
def tb_TooMany (s : String) : Option Bool := if s = "NoDraw" then some false else none
def tb_ValueError (s : String) : Option Bool := if s = "NoDraw" then some true else none
noncomputable def L_l_alike_0 : S := sSeq (sIf (tOrr (tV (eUn (gIsi "bool") (eV 2))) (tV (eBin gNe (eUn (gIsi "int") (eV 2)) (eUn (gIsi "int") (eV 3))))) (sRet (eC (.bl false))) (sNx))
    (sIf (tOrr (tV (eBin gNe (eUn (gIsi "str") (eV 2)) (eUn (gIsi "str") (eV 3)))) (tV (eBin gNe (eV 2) (eV 3)))) (sRet (eC (.bl false))) (sNx))
noncomputable def S_l_alike : List D → Sto → R D := runG 4 (
    sSeq (sIf (tOrr (tNt (tV (eUn (gIsi "list") (eV 0)))) (tV (eBin gNe (eFn gLen (aCons (eV 0) (aNil))) (eFn gLen (aCons (eV 1) (aNil)))))) (sRet (eC (.bl false))) (sNx))
    (sSeq (sFor (iZipD (aCons (eV 0) (aCons (eV 1) (aNil)))) (.tp [.nm 2, .nm 3]) (L_l_alike_0))
    (sRet (eC (.bl true)))))
noncomputable def S_l_cell_at : List D → Sto → R D := runG 2 (
    sSeq (sIf (tV (eBin gLt (eV 1) (eFn gLen (aCons (eV 0) (aNil))))) (sRet (eBin gIx (eV 0) (eV 1))) (sNx))
    (sRet (eC (.int 0))))
noncomputable def L_l_count_0 : S := sSet 2 (eBin gMul (eV 2) (eFn gLen (aCons (eBin gIx (eV 0) (eC (.int 1))) (aNil))))
noncomputable def S_l_count : List D → Sto → R D := runG 5 (
    sSeq (sIf (tV (eBin gEq (eBin gIx (eV 0) (eC (.int 0))) (eC (.str (Str.ofString "text"))))) (sSeq (sSet 2 (eC (.int 1)))
    (sSeq (sFor (iRange1 (aCons (eV 1) (aNil))) (.nm 3) (L_l_count_0))
    (sRet (eV 2)))) (sNx))
    (sSeq (sSet 4 (eBin gSub (eBin gIx (eV 0) (eC (.int 2))) (eBin gIx (eV 0) (eC (.int 1)))))
    (sSeq (sIf (tV (eBin gEq (eV 1) (eC (.int 0)))) (sRet (eC (.int 1))) (sNx))
    (sRet (eFn gMax2 (aCons (eC (.int 0)) (aCons (eBin gAdd (eBin gSub (eFn gMin2 (aCons (eV 4) (aCons (eBin gSub (eBin gShl (eC (.int 1)) (eV 1)) (eC (.int 1))) (aNil)))) (eBin gShl (eC (.int 1)) (eBin gSub (eV 1) (eC (.int 1))))) (eC (.int 1))) (aNil))))))))
noncomputable def S_Maker___init__ : List D → Sto → R D := runG 2 (
    sSeq (sSetAt cl_within "within" (eV 0) (eV 1))
    (sSetAt cl_counts "counts" (eV 0) (eNw (fLst (aNil)))))
noncomputable def S_AlikeMaker___init__ : List D → Sto → R D := runG 3 (
    sSeq (sDrop (eCall S_Maker___init__ (aCons (eV 0) (aCons (eV 1) (aNil)))))
    (sSetAt cl_times "times" (eV 0) (eV 2)))
noncomputable def S_PickMaker___init__ : List D → Sto → R D := runG 3 (
    sSeq (sDrop (eCall S_Maker___init__ (aCons (eV 0) (aCons (eV 1) (aNil)))))
    (sSetAt cl_marks "marks" (eV 0) (eV 2)))
noncomputable def S_RisingMaker___init__ : List D → Sto → R D := runG 2 (
    sSeq (sDrop (eCall S_Maker___init__ (aCons (eV 0) (aCons (eV 1) (aNil)))))
    (sSetAt cl_ways "ways" (eV 0) (eDNewT)))
noncomputable def S_RowMaker___init__ : List D → Sto → R D := runG 3 (
    sSeq (sDrop (eCall S_Maker___init__ (aCons (eV 0) (aCons (eV 1) (aNil)))))
    (sSetAt cl_rests "rests" (eV 0) (eFz (fLc (iRange1 (aCons (eBin gAdd (eFn gLen (aCons (eV 1) (aNil))) (eC (.int 1))) (aNil))) [2] (.nm 2) (tTrue) (eNw (fLst (aNil)))))))
noncomputable def S_TextMaker___init__ : List D → Sto → R D := runG 2 (
    sSeq (sDrop (eCall S_Maker___init__ (aCons (eV 0) (aCons (eFz (fLst (aNil))) (aNil)))))
    (sSetAt cl_signs "signs" (eV 0) (eV 1)))
noncomputable def S_UseMaker___init__ : List D → Sto → R D := runG 3 (
    sSeq (sDrop (eCall S_Maker___init__ (aCons (eV 0) (aCons (eFz (fLst (aNil))) (aNil)))))
    (sSeq (sSetAt cl_named "named" (eV 0) (eV 1))
    (sSetAt cl_name "name" (eV 0) (eV 2))))
noncomputable def S_WholeMaker___init__ : List D → Sto → R D := runG 3 (
    sSeq (sDrop (eCall S_Maker___init__ (aCons (eV 0) (aCons (eFz (fLst (aNil))) (aNil)))))
    (sSeq (sSetAt cl_low "low" (eV 0) (eV 1))
    (sSetAt cl_span "span" (eV 0) (eBin gSub (eV 2) (eV 1)))))
noncomputable def U_maker_of (c_maker_of : List D → Sto → R D) : List D → Sto → R D := runG 6 (
    sSeq (sSet 2 (eBin gIx (eV 0) (eC (.int 0))))
    (sSeq (sIf (tV (eBin gEq (eV 2) (eC (.str (Str.ofString "whole"))))) (sRet (eMake "WholeMaker" S_WholeMaker___init__ (aCons (eBin gIx (eV 0) (eC (.int 1))) (aCons (eBin gIx (eV 0) (eC (.int 2))) (aNil))))) (sNx))
    (sSeq (sIf (tV (eBin gEq (eV 2) (eC (.str (Str.ofString "text"))))) (sRet (eMake "TextMaker" S_TextMaker___init__ (aCons (eBin gIx (eV 0) (eC (.int 1))) (aNil)))) (sNx))
    (sSeq (sIf (tV (eBin gEq (eV 2) (eC (.str (Str.ofString "use"))))) (sRet (eMake "UseMaker" S_UseMaker___init__ (aCons (eV 1) (aCons (eBin gIx (eV 0) (eC (.int 1))) (aNil))))) (sNx))
    (sSeq (sIf (tV (eBin gEq (eV 2) (eC (.str (Str.ofString "row"))))) (sRet (eMake "RowMaker" S_RowMaker___init__ (aCons (eFz (fLc (iSeq (eBin gIx (eV 0) (eC (.int 1)))) [4] (.nm 4) (tTrue) (eCall c_maker_of (aCons (eV 4) (aCons (eV 1) (aNil)))))) (aNil)))) (sNx))
    (sSeq (sIf (tV (eBin gEq (eV 2) (eC (.str (Str.ofString "pick"))))) (sSeq (sSet 3 (eFz (fLc (iSeq (eBin gIx (eV 0) (eC (.int 1)))) [5] (.nm 5) (tTrue) (eCall c_maker_of (aCons (eBin gIx (eV 5) (eC (.int 1))) (aCons (eV 1) (aNil)))))))
    (sRet (eMake "PickMaker" S_PickMaker___init__ (aCons (eV 3) (aCons (eFz (fLc (iSeq (eBin gIx (eV 0) (eC (.int 1)))) [5] (.nm 5) (tTrue) (eBin gIx (eV 5) (eC (.int 0))))) (aNil)))))) (sNx))
    (sSeq (sSet 3 (eFz (fLst (aCons (eCall c_maker_of (aCons (eBin gIx (eV 0) (eC (.int 1))) (aCons (eV 1) (aNil)))) (aNil)))))
    (sSeq (sIf (tV (eBin gEq (eV 2) (eC (.str (Str.ofString "many"))))) (sRet (eMake "ManyMaker" S_Maker___init__ (aCons (eV 3) (aNil)))) (sNx))
    (sSeq (sIf (tV (eBin gEq (eV 2) (eC (.str (Str.ofString "rising"))))) (sRet (eMake "RisingMaker" S_RisingMaker___init__ (aCons (eV 3) (aNil)))) (sNx))
    (sSeq (sIf (tV (eBin gEq (eV 2) (eC (.str (Str.ofString "unlike"))))) (sRet (eMake "UnlikeMaker" S_RisingMaker___init__ (aCons (eV 3) (aNil)))) (sNx))
    (sRet (eMake "AlikeMaker" S_AlikeMaker___init__ (aCons (eV 3) (aCons (eBin gIx (eV 0) (eC (.int 2))) (aNil)))))))))))))))
noncomputable def S_maker_of : Nat → List D → Sto → R D
  | 0 => fun _ _ => .stk
  | n + 1 => U_maker_of (S_maker_of n)
noncomputable def L_Tables___init___0 : S := sDPutK (eAt cl_named "named" (eV 0)) (eV 3) (eCall (S_maker_of 20) (aCons (eV 4) (aCons (eAt cl_named "named" (eV 0)) (aNil))))
noncomputable def S_Tables___init__ : List D → Sto → R D := runG 5 (
    sSeq (sSetAt cl_named "named" (eV 0) (eDNewK))
    (sSeq (sFor (iSeq (eV 1)) (.tp [.nm 3, .nm 4]) (L_Tables___init___0))
    (sSetAt cl_top "top" (eV 0) (eCall (S_maker_of 20) (aCons (eV 2) (aCons (eAt cl_named "named" (eV 0)) (aNil)))))))
noncomputable def S_Tables_counts_at : List D → Sto → R D := runG 2 (
    sRet (eBin gIx (eAt cl_counts "counts" (eAt cl_top "top" (eV 0))) (eV 1)))
noncomputable def S_AlikeMaker_next_count : List D → Sto → R D := runG 2 (
    sSeq (sIf (tOrr (tV (eBin gLt (eV 1) (eAt cl_times "times" (eV 0)))) (tV (eBin gNe (eBin gMod (eV 1) (eAt cl_times "times" (eV 0))) (eC (.int 0))))) (sRet (eC (.int 0))) (sNx))
    (sRet (eBin gIx (eAt cl_counts "counts" (eBin gIx (eAt cl_within "within" (eV 0)) (eC (.int 0)))) (eBin gSub (eBin gDiv (eV 1) (eAt cl_times "times" (eV 0))) (eC (.int 1))))))
noncomputable def S_ManyMaker_next_count : List D → Sto → R D := runG 4 (
    sSeq (sIf (tV (eBin gEq (eV 1) (eC (.int 0)))) (sRet (eC (.int 1))) (sNx))
    (sSeq (sSet 2 (eAt cl_counts "counts" (eBin gIx (eAt cl_within "within" (eV 0)) (eC (.int 0)))))
    (sRet (eFn gSumA (aCons (eFz (fLc (iRange1 (aCons (eV 1) (aNil))) [3] (.nm 3) (tTrue) (eBin gMul (eBin gIx (eV 2) (eV 3)) (eBin gIx (eAt cl_counts "counts" (eV 0)) (eBin gSub (eBin gSub (eV 1) (eC (.int 1))) (eV 3)))))) (aNil))))))
noncomputable def S_PickMaker_next_count : List D → Sto → R D := runG 3 (
    sRet (eFn gSumA (aCons (eFz (fLc (iSeq (eAt cl_within "within" (eV 0))) [2] (.nm 2) (tTrue) (eBin gIx (eAt cl_counts "counts" (eV 2)) (eV 1)))) (aNil))))
noncomputable def S_RisingMaker_beyond : List D → Sto → R D := runG 3 (
    sSeq (sIf (tV (eBin gEq (eV 2) (eC (.int 0)))) (sRet (eC (.int 1))) (sNx))
    (sRet (eDGetT (eAt cl_ways "ways" (eV 0)) (aCons (eV 1) (aCons (eV 2) (aNil))) (eC (.int 0)))))
noncomputable def L_sets_among_0 : S := sSet 2 (eBin gDiv (eBin gMul (eV 2) (eBin gSub (eV 0) (eV 3))) (eBin gAdd (eV 3) (eC (.int 1))))
noncomputable def S_sets_among : List D → Sto → R D := runG 4 (
    sSeq (sIf (tV (eBin gGt (eV 1) (eV 0))) (sRet (eC (.int 0))) (sNx))
    (sSeq (sSet 2 (eC (.int 1)))
    (sSeq (sFor (iRange1 (aCons (eFn gMin2 (aCons (eV 1) (aCons (eBin gSub (eV 0) (eV 1)) (aNil)))) (aNil))) (.nm 3) (L_sets_among_0))
    (sRet (eV 2)))))
noncomputable def S_bags_among : List D → Sto → R D := runG 2 (
    sSeq (sIf (tV (eBin gEq (eV 1) (eC (.int 0)))) (sRet (eC (.int 1))) (sNx))
    (sSeq (sIf (tV (eBin gEq (eV 0) (eC (.int 0)))) (sRet (eC (.int 0))) (sNx))
    (sRet (eCall S_sets_among (aCons (eBin gSub (eBin gAdd (eV 0) (eV 1)) (eC (.int 1))) (aCons (eV 1) (aNil)))))))
noncomputable def S_RisingMaker_among : List D → Sto → R D := runG 3 (
    sRet (eCall S_bags_among (aCons (eV 1) (aCons (eV 2) (aNil)))))
noncomputable def S_UnlikeMaker_among : List D → Sto → R D := runG 3 (
    sRet (eCall S_sets_among (aCons (eV 1) (aCons (eV 2) (aNil)))))
noncomputable def S_RisingMaker_block : List D → Sto → R D := runG 5 (
    sSeq (sSet 4 (eMeth (mt_among S_RisingMaker_among S_UnlikeMaker_among) "among" (eV 0) (aCons (eBin gIx (eAt cl_counts "counts" (eBin gIx (eAt cl_within "within" (eV 0)) (eC (.int 0)))) (eV 1)) (aCons (eV 3) (aNil)))))
    (sRet (eBin gMul (eV 4) (eMeth (mt_beyond S_RisingMaker_beyond) "beyond" (eV 0) (aCons (eBin gAdd (eV 1) (eC (.int 1))) (aCons (eBin gSub (eV 2) (eBin gMul (eV 3) (eBin gAdd (eV 1) (eC (.int 1))))) (aNil)))))))
noncomputable def L_RisingMaker_next_count_0 : S := sSeq (sSet 3 (eBin gDiv (eV 1) (eBin gAdd (eV 2) (eC (.int 1)))))
    (sDPutT (eAt cl_ways "ways" (eV 0)) (aCons (eV 2) (aCons (eV 1) (aNil))) (eFn gSumA (aCons (eFz (fLc (iRange1 (aCons (eBin gAdd (eV 3) (eC (.int 1))) (aNil))) [4] (.nm 4) (tTrue) (eMeth (mt_block S_RisingMaker_block) "block" (eV 0) (aCons (eV 2) (aCons (eV 1) (aCons (eV 4) (aNil))))))) (aNil))))
noncomputable def S_RisingMaker_next_count : List D → Sto → R D := runG 5 (
    sSeq (sFor (iRange3 (aCons (eBin gSub (eV 1) (eC (.int 1))) (aCons (eUn gNeg (eC (.int 1))) (aCons (eUn gNeg (eC (.int 1))) (aNil))))) (.nm 2) (L_RisingMaker_next_count_0))
    (sRet (eMeth (mt_beyond S_RisingMaker_beyond) "beyond" (eV 0) (aCons (eC (.int 0)) (aCons (eV 1) (aNil))))))
noncomputable def L_RowMaker_next_count_0 : S := sSeq (sSet 4 (eAt cl_counts "counts" (eBin gIx (eAt cl_within "within" (eV 0)) (eV 3))))
    (sSeq (sSet 5 (eBin gIx (eAt cl_rests "rests" (eV 0)) (eBin gAdd (eV 3) (eC (.int 1)))))
    (sDrop (eApp (eBin gIx (eAt cl_rests "rests" (eV 0)) (eV 3)) (eFn gSumA (aCons (eFz (fLc (iRange1 (aCons (eBin gAdd (eV 1) (eC (.int 1))) (aNil))) [6] (.nm 6) (tTrue) (eBin gMul (eBin gIx (eV 4) (eV 6)) (eBin gIx (eV 5) (eBin gSub (eV 1) (eV 6)))))) (aNil))))))
noncomputable def S_RowMaker_next_count : List D → Sto → R D := runG 7 (
    sSeq (sSet 2 (eFn gLen (aCons (eAt cl_within "within" (eV 0)) (aNil))))
    (sSeq (sDrop (eApp (eBin gIx (eAt cl_rests "rests" (eV 0)) (eV 2)) (eFn gInt (aCons (eBin gEq (eV 1) (eC (.int 0))) (aNil)))))
    (sSeq (sFor (iRange3 (aCons (eBin gSub (eV 2) (eC (.int 1))) (aCons (eUn gNeg (eC (.int 1))) (aCons (eUn gNeg (eC (.int 1))) (aNil))))) (.nm 3) (L_RowMaker_next_count_0))
    (sRet (eBin gIx (eBin gIx (eAt cl_rests "rests" (eV 0)) (eC (.int 0))) (eV 1))))))
noncomputable def S_TextMaker_next_count : List D → Sto → R D := runG 2 (
    sSeq (sIf (tV (eBin gEq (eV 1) (eC (.int 0)))) (sRet (eC (.int 1))) (sNx))
    (sRet (eBin gMul (eBin gIx (eAt cl_counts "counts" (eV 0)) (eBin gSub (eV 1) (eC (.int 1)))) (eFn gLen (aCons (eAt cl_signs "signs" (eV 0)) (aNil))))))
noncomputable def S_UseMaker_next_count : List D → Sto → R D := runG 2 (
    sSeq (sIf (tV (eBin gEq (eV 1) (eC (.int 0)))) (sRet (eC (.int 0))) (sNx))
    (sRet (eBin gIx (eAt cl_counts "counts" (eDIx (eAt cl_named "named" (eV 0)) (eAt cl_name "name" (eV 0)))) (eBin gSub (eV 1) (eC (.int 1))))))
noncomputable def S_WholeMaker_next_count : List D → Sto → R D := runG 3 (
    sSeq (sIf (tV (eBin gEq (eV 1) (eC (.int 0)))) (sRet (eC (.int 1))) (sNx))
    (sSeq (sSet 2 (eBin gShl (eC (.int 1)) (eBin gSub (eV 1) (eC (.int 1)))))
    (sRet (eFn gMax2 (aCons (eC (.int 0)) (aCons (eBin gAdd (eBin gSub (eFn gMin2 (aCons (eAt cl_span "span" (eV 0)) (aCons (eBin gSub (eBin gMul (eC (.int 2)) (eV 2)) (eC (.int 1))) (aNil)))) (eV 2)) (eC (.int 1))) (aNil)))))))
noncomputable def L_Maker_grow_0 (c_Maker_grow : List D → Sto → R D) : S := sDrop (eMeth (mt_grow c_Maker_grow) "grow" (eV 1) aNil)
noncomputable def U_Maker_grow (c_Maker_grow : List D → Sto → R D) : List D → Sto → R D := runG 2 (
    sSeq (sFor (iSeq (eAt cl_within "within" (eV 0))) (.nm 1) (L_Maker_grow_0 c_Maker_grow))
    (sDrop (eApp (eAt cl_counts "counts" (eV 0)) (eMeth (mt_next_count S_WholeMaker_next_count S_TextMaker_next_count S_RowMaker_next_count S_ManyMaker_next_count S_RisingMaker_next_count S_AlikeMaker_next_count S_PickMaker_next_count S_UseMaker_next_count) "next_count" (eV 0) (aCons (eFn gLen (aCons (eAt cl_counts "counts" (eV 0)) (aNil))) (aNil))))))
noncomputable def S_Maker_grow : Nat → List D → Sto → R D
  | 0 => fun _ _ => .stk
  | n + 1 => U_Maker_grow (S_Maker_grow n)
noncomputable def L_Tables_grow_to_1 : S := sDrop (eMeth (mt_grow (S_Maker_grow 20)) "grow" (eV 2) aNil)
noncomputable def T_Tables_grow_to_0 : T := tV (eBin gLe (eFn gLen (aCons (eAt cl_counts "counts" (eAt cl_top "top" (eV 0))) (aNil))) (eV 1))
noncomputable def L_Tables_grow_to_0 : S := sSeq (sFor (iDVals (eAt cl_named "named" (eV 0))) (.nm 2) (L_Tables_grow_to_1))
    (sDrop (eMeth (mt_grow (S_Maker_grow 20)) "grow" (eAt cl_top "top" (eV 0)) aNil))
noncomputable def S_Tables_grow_to : List D → Sto → R D := runG 3 (
    whileD (T_Tables_grow_to_0) (L_Tables_grow_to_0) fuel)
noncomputable def T_greatest_below_0 : T := tV (eBin gLe (eCall S_sets_among (aCons (eV 3) (aCons (eV 0) (aNil)))) (eV 1))
noncomputable def L_greatest_below_0 : S := sSeq (sSet 2 (eV 3))
    (sSet 3 (eBin gMul (eC (.int 2)) (eV 3)))
noncomputable def T_greatest_below_1 : T := tV (eBin gGt (eBin gSub (eV 3) (eV 2)) (eC (.int 1)))
noncomputable def L_greatest_below_1 : S := sSeq (sSet 4 (eBin gDiv (eBin gAdd (eV 2) (eV 3)) (eC (.int 2))))
    (sIf (tV (eBin gLe (eCall S_sets_among (aCons (eV 4) (aCons (eV 0) (aNil)))) (eV 1))) (sSet 2 (eV 4)) (sSet 3 (eV 4)))
noncomputable def S_greatest_below : List D → Sto → R D := runG 5 (
    sSeq (sSet 2 (eBin gSub (eV 0) (eC (.int 1))))
    (sSeq (sSet 3 (eV 0))
    (sSeq (whileD (T_greatest_below_0) (L_greatest_below_0) fuel)
    (sSeq (whileD (T_greatest_below_1) (L_greatest_below_1) fuel)
    (sRet (eV 2))))))
noncomputable def L_set_at_0 : S := sSeq (sSet 4 (eCall S_greatest_below (aCons (eV 3) (aCons (eV 1) (aNil)))))
    (sSeq (sAug 1 gSub (eCall S_sets_among (aCons (eV 4) (aCons (eV 3) (aNil)))))
    (sDrop (eApp (eV 2) (eV 4))))
noncomputable def S_set_at : List D → Sto → R D := runG 5 (
    sSeq (sSet 2 (eNw (fLst (aNil))))
    (sSeq (sFor (iRevR2 (eC (.int 1)) (eBin gAdd (eV 0) (eC (.int 1)))) (.nm 3) (L_set_at_0))
    (sFrz 2 (sRet (eUn gRevA (eV 2))))))
noncomputable def S_bag_at : List D → Sto → R D := runG 4 (
    sRet (eFz (fLc (iEnumD (aCons (eCall S_set_at (aCons (eV 0) (aCons (eV 1) (aNil)))) (aNil))) [2, 3] (.tp [.nm 2, .nm 3]) (tTrue) (eBin gSub (eV 3) (eV 2)))))
noncomputable def S_RisingMaker_chosen_at : List D → Sto → R D := runG 3 (
    sRet (eCall S_bag_at (aCons (eV 1) (aCons (eV 2) (aNil)))))
noncomputable def L_TextMaker_told_0 : S := sSeq (sAsg (.tp [.nm 2, .nm 5]) (eFn gDivmod (aCons (eV 2) (aCons (eFn gLen (aCons (eAt cl_signs "signs" (eV 0)) (aNil))) (aNil)))))
    (sSet 3 (eBin gAdd (eBin gIx (eAt cl_signs "signs" (eV 0)) (eV 5)) (eV 3)))
noncomputable def S_TextMaker_told : List D → Sto → R D := runG 6 (
    sSeq (sSet 3 (eC (.str (Str.ofString ""))))
    (sSeq (sFor (iRange1 (aCons (eV 1) (aNil))) (.nm 4) (L_TextMaker_told_0))
    (sRet (eV 3))))
noncomputable def S_WholeMaker_told : List D → Sto → R D := runG 3 (
    sSeq (sIf (tV (eBin gEq (eV 1) (eC (.int 0)))) (sRet (eAt cl_low "low" (eV 0))) (sNx))
    (sRet (eBin gAdd (eBin gAdd (eAt cl_low "low" (eV 0)) (eBin gShl (eC (.int 1)) (eBin gSub (eV 1) (eC (.int 1))))) (eV 2))))
noncomputable def T_first_taken_0 : T := tV (eBin gGe (eV 3) (eBin gMul (eBin gIx (eV 0) (eV 4)) (eBin gIx (eV 1) (eBin gSub (eV 2) (eV 4)))))
noncomputable def L_first_taken_0 : S := sSeq (sAug 3 gSub (eBin gMul (eBin gIx (eV 0) (eV 4)) (eBin gIx (eV 1) (eBin gSub (eV 2) (eV 4)))))
    (sAug 4 gAddI (eC (.int 1)))
noncomputable def S_first_taken : List D → Sto → R D := runG 7 (
    sSeq (sSet 4 (eC (.int 0)))
    (sSeq (whileD (T_first_taken_0) (L_first_taken_0) fuel)
    (sSeq (sAsg (.tp [.nm 5, .nm 6]) (eFn gDivmod (aCons (eV 3) (aCons (eBin gIx (eV 1) (eBin gSub (eV 2) (eV 4))) (aNil)))))
    (sRet (eTup (aCons (eV 4) (aCons (eV 5) (aCons (eV 6) (aNil)))))))))
noncomputable def S_UnlikeMaker_chosen_at : List D → Sto → R D := runG 3 (
    sRet (eCall S_set_at (aCons (eV 1) (aCons (eV 2) (aNil)))))
noncomputable def U_AlikeMaker_told (c_AlikeMaker_told : List D → Sto → R D) (c_ManyMaker_told : List D → Sto → R D) (c_PickMaker_told : List D → Sto → R D) (c_RisingMaker_told : List D → Sto → R D) (c_RowMaker_told : List D → Sto → R D) (c_UseMaker_told : List D → Sto → R D) : List D → Sto → R D := runG 4 (
    sRet (eFz (fLc (iRange1 (aCons (eAt cl_times "times" (eV 0)) (aNil))) [3] (.nm 3) (tTrue) (eMeth (mt_told S_WholeMaker_told S_TextMaker_told c_RowMaker_told c_ManyMaker_told c_RisingMaker_told c_AlikeMaker_told c_PickMaker_told c_UseMaker_told) "told" (eBin gIx (eAt cl_within "within" (eV 0)) (eC (.int 0))) (aCons (eBin gSub (eBin gDiv (eV 1) (eAt cl_times "times" (eV 0))) (eC (.int 1))) (aCons (eV 2) (aNil)))))))
noncomputable def T_ManyMaker_told_0 (c_AlikeMaker_told : List D → Sto → R D) (c_ManyMaker_told : List D → Sto → R D) (c_PickMaker_told : List D → Sto → R D) (c_RisingMaker_told : List D → Sto → R D) (c_RowMaker_told : List D → Sto → R D) (c_UseMaker_told : List D → Sto → R D) : T := tV (eBin gGt (eV 1) (eC (.int 0)))
noncomputable def L_ManyMaker_told_0 (c_AlikeMaker_told : List D → Sto → R D) (c_ManyMaker_told : List D → Sto → R D) (c_PickMaker_told : List D → Sto → R D) (c_RisingMaker_told : List D → Sto → R D) (c_RowMaker_told : List D → Sto → R D) (c_UseMaker_told : List D → Sto → R D) : S := sSeq (sAsg (.tp [.nm 4, .nm 5, .nm 2]) (eCall S_first_taken (aCons (eAt cl_counts "counts" (eBin gIx (eAt cl_within "within" (eV 0)) (eC (.int 0)))) (aCons (eAt cl_counts "counts" (eV 0)) (aCons (eBin gSub (eV 1) (eC (.int 1))) (aCons (eV 2) (aNil)))))))
    (sSeq (sDrop (eApp (eV 3) (eMeth (mt_told S_WholeMaker_told S_TextMaker_told c_RowMaker_told c_ManyMaker_told c_RisingMaker_told c_AlikeMaker_told c_PickMaker_told c_UseMaker_told) "told" (eBin gIx (eAt cl_within "within" (eV 0)) (eC (.int 0))) (aCons (eV 4) (aCons (eV 5) (aNil))))))
    (sAug 1 gSub (eBin gAdd (eC (.int 1)) (eV 4))))
noncomputable def U_ManyMaker_told (c_AlikeMaker_told : List D → Sto → R D) (c_ManyMaker_told : List D → Sto → R D) (c_PickMaker_told : List D → Sto → R D) (c_RisingMaker_told : List D → Sto → R D) (c_RowMaker_told : List D → Sto → R D) (c_UseMaker_told : List D → Sto → R D) : List D → Sto → R D := runG 6 (
    sSeq (sSet 3 (eNw (fLst (aNil))))
    (sSeq (whileD (T_ManyMaker_told_0 c_AlikeMaker_told c_ManyMaker_told c_PickMaker_told c_RisingMaker_told c_RowMaker_told c_UseMaker_told) (L_ManyMaker_told_0 c_AlikeMaker_told c_ManyMaker_told c_PickMaker_told c_RisingMaker_told c_RowMaker_told c_UseMaker_told) fuel)
    (sFrz 3 (sRet (eV 3)))))
noncomputable def T_PickMaker_told_0 (c_AlikeMaker_told : List D → Sto → R D) (c_ManyMaker_told : List D → Sto → R D) (c_PickMaker_told : List D → Sto → R D) (c_RisingMaker_told : List D → Sto → R D) (c_RowMaker_told : List D → Sto → R D) (c_UseMaker_told : List D → Sto → R D) : T := tV (eBin gGe (eV 2) (eBin gIx (eAt cl_counts "counts" (eBin gIx (eAt cl_within "within" (eV 0)) (eV 3))) (eV 1)))
noncomputable def L_PickMaker_told_0 (c_AlikeMaker_told : List D → Sto → R D) (c_ManyMaker_told : List D → Sto → R D) (c_PickMaker_told : List D → Sto → R D) (c_RisingMaker_told : List D → Sto → R D) (c_RowMaker_told : List D → Sto → R D) (c_UseMaker_told : List D → Sto → R D) : S := sSeq (sAug 2 gSub (eBin gIx (eAt cl_counts "counts" (eBin gIx (eAt cl_within "within" (eV 0)) (eV 3))) (eV 1)))
    (sAug 3 gAddI (eC (.int 1)))
noncomputable def U_PickMaker_told (c_AlikeMaker_told : List D → Sto → R D) (c_ManyMaker_told : List D → Sto → R D) (c_PickMaker_told : List D → Sto → R D) (c_RisingMaker_told : List D → Sto → R D) (c_RowMaker_told : List D → Sto → R D) (c_UseMaker_told : List D → Sto → R D) : List D → Sto → R D := runG 4 (
    sSeq (sSet 3 (eC (.int 0)))
    (sSeq (whileD (T_PickMaker_told_0 c_AlikeMaker_told c_ManyMaker_told c_PickMaker_told c_RisingMaker_told c_RowMaker_told c_UseMaker_told) (L_PickMaker_told_0 c_AlikeMaker_told c_ManyMaker_told c_PickMaker_told c_RisingMaker_told c_RowMaker_told c_UseMaker_told) fuel)
    (sRet (eTup (aCons (eBin gIx (eAt cl_marks "marks" (eV 0)) (eV 3)) (aCons (eMeth (mt_told S_WholeMaker_told S_TextMaker_told c_RowMaker_told c_ManyMaker_told c_RisingMaker_told c_AlikeMaker_told c_PickMaker_told c_UseMaker_told) "told" (eBin gIx (eAt cl_within "within" (eV 0)) (eV 3)) (aCons (eV 1) (aCons (eV 2) (aNil)))) (aNil)))))))
noncomputable def T_RisingMaker_told_1 (c_AlikeMaker_told : List D → Sto → R D) (c_ManyMaker_told : List D → Sto → R D) (c_PickMaker_told : List D → Sto → R D) (c_RisingMaker_told : List D → Sto → R D) (c_RowMaker_told : List D → Sto → R D) (c_UseMaker_told : List D → Sto → R D) : T := tV (eBin gGe (eV 2) (eMeth (mt_block S_RisingMaker_block) "block" (eV 0) (aCons (eV 4) (aCons (eV 1) (aCons (eV 5) (aNil))))))
noncomputable def L_RisingMaker_told_1 (c_AlikeMaker_told : List D → Sto → R D) (c_ManyMaker_told : List D → Sto → R D) (c_PickMaker_told : List D → Sto → R D) (c_RisingMaker_told : List D → Sto → R D) (c_RowMaker_told : List D → Sto → R D) (c_UseMaker_told : List D → Sto → R D) : S := sSeq (sAug 2 gSub (eMeth (mt_block S_RisingMaker_block) "block" (eV 0) (aCons (eV 4) (aCons (eV 1) (aCons (eV 5) (aNil))))))
    (sAug 5 gAddI (eC (.int 1)))
noncomputable def T_RisingMaker_told_0 (c_AlikeMaker_told : List D → Sto → R D) (c_ManyMaker_told : List D → Sto → R D) (c_PickMaker_told : List D → Sto → R D) (c_RisingMaker_told : List D → Sto → R D) (c_RowMaker_told : List D → Sto → R D) (c_UseMaker_told : List D → Sto → R D) : T := tV (eBin gGt (eV 1) (eC (.int 0)))
noncomputable def L_RisingMaker_told_0 (c_AlikeMaker_told : List D → Sto → R D) (c_ManyMaker_told : List D → Sto → R D) (c_PickMaker_told : List D → Sto → R D) (c_RisingMaker_told : List D → Sto → R D) (c_RowMaker_told : List D → Sto → R D) (c_UseMaker_told : List D → Sto → R D) : S := sSeq (sSet 5 (eC (.int 0)))
    (sSeq (whileD (T_RisingMaker_told_1 c_AlikeMaker_told c_ManyMaker_told c_PickMaker_told c_RisingMaker_told c_RowMaker_told c_UseMaker_told) (L_RisingMaker_told_1 c_AlikeMaker_told c_ManyMaker_told c_PickMaker_told c_RisingMaker_told c_RowMaker_told c_UseMaker_told) fuel)
    (sSeq (sAug 1 gSub (eBin gMul (eV 5) (eBin gAdd (eV 4) (eC (.int 1)))))
    (sSeq (sAsg (.tp [.nm 6, .nm 2]) (eFn gDivmod (aCons (eV 2) (aCons (eMeth (mt_beyond S_RisingMaker_beyond) "beyond" (eV 0) (aCons (eBin gAdd (eV 4) (eC (.int 1))) (aCons (eV 1) (aNil)))) (aNil)))))
    (sSeq (sDrop (eExt (eV 3) (eNw (fLc (iSeq (eMeth (mt_chosen_at S_RisingMaker_chosen_at S_UnlikeMaker_chosen_at) "chosen_at" (eV 0) (aCons (eV 5) (aCons (eV 6) (aNil))))) [7] (.nm 7) (tTrue) (eMeth (mt_told S_WholeMaker_told S_TextMaker_told c_RowMaker_told c_ManyMaker_told c_RisingMaker_told c_AlikeMaker_told c_PickMaker_told c_UseMaker_told) "told" (eBin gIx (eAt cl_within "within" (eV 0)) (eC (.int 0))) (aCons (eV 4) (aCons (eV 7) (aNil))))))))
    (sAug 4 gAddI (eC (.int 1)))))))
noncomputable def U_RisingMaker_told (c_AlikeMaker_told : List D → Sto → R D) (c_ManyMaker_told : List D → Sto → R D) (c_PickMaker_told : List D → Sto → R D) (c_RisingMaker_told : List D → Sto → R D) (c_RowMaker_told : List D → Sto → R D) (c_UseMaker_told : List D → Sto → R D) : List D → Sto → R D := runG 8 (
    sSeq (sSet 3 (eNw (fLst (aNil))))
    (sSeq (sSet 4 (eC (.int 0)))
    (sSeq (whileD (T_RisingMaker_told_0 c_AlikeMaker_told c_ManyMaker_told c_PickMaker_told c_RisingMaker_told c_RowMaker_told c_UseMaker_told) (L_RisingMaker_told_0 c_AlikeMaker_told c_ManyMaker_told c_PickMaker_told c_RisingMaker_told c_RowMaker_told c_UseMaker_told) fuel)
    (sFrz 3 (sRet (eV 3))))))
noncomputable def L_RowMaker_told_0 (c_AlikeMaker_told : List D → Sto → R D) (c_ManyMaker_told : List D → Sto → R D) (c_PickMaker_told : List D → Sto → R D) (c_RisingMaker_told : List D → Sto → R D) (c_RowMaker_told : List D → Sto → R D) (c_UseMaker_told : List D → Sto → R D) : S := sSeq (sAsg (.tp [.nm 6, .nm 7, .nm 2]) (eCall S_first_taken (aCons (eAt cl_counts "counts" (eV 5)) (aCons (eBin gIx (eAt cl_rests "rests" (eV 0)) (eBin gAdd (eV 4) (eC (.int 1)))) (aCons (eV 1) (aCons (eV 2) (aNil)))))))
    (sSeq (sDrop (eApp (eV 3) (eMeth (mt_told S_WholeMaker_told S_TextMaker_told c_RowMaker_told c_ManyMaker_told c_RisingMaker_told c_AlikeMaker_told c_PickMaker_told c_UseMaker_told) "told" (eV 5) (aCons (eV 6) (aCons (eV 7) (aNil))))))
    (sAug 1 gSub (eV 6)))
noncomputable def U_RowMaker_told (c_AlikeMaker_told : List D → Sto → R D) (c_ManyMaker_told : List D → Sto → R D) (c_PickMaker_told : List D → Sto → R D) (c_RisingMaker_told : List D → Sto → R D) (c_RowMaker_told : List D → Sto → R D) (c_UseMaker_told : List D → Sto → R D) : List D → Sto → R D := runG 8 (
    sSeq (sSet 3 (eNw (fLst (aNil))))
    (sSeq (sFor (iEnumD (aCons (eAt cl_within "within" (eV 0)) (aNil))) (.tp [.nm 4, .nm 5]) (L_RowMaker_told_0 c_AlikeMaker_told c_ManyMaker_told c_PickMaker_told c_RisingMaker_told c_RowMaker_told c_UseMaker_told))
    (sFrz 3 (sRet (eFn gTuple (aCons (eV 3) (aNil)))))))
noncomputable def U_UseMaker_told (c_AlikeMaker_told : List D → Sto → R D) (c_ManyMaker_told : List D → Sto → R D) (c_PickMaker_told : List D → Sto → R D) (c_RisingMaker_told : List D → Sto → R D) (c_RowMaker_told : List D → Sto → R D) (c_UseMaker_told : List D → Sto → R D) : List D → Sto → R D := runG 3 (
    sRet (eMeth (mt_told S_WholeMaker_told S_TextMaker_told c_RowMaker_told c_ManyMaker_told c_RisingMaker_told c_AlikeMaker_told c_PickMaker_told c_UseMaker_told) "told" (eDIx (eAt cl_named "named" (eV 0)) (eAt cl_name "name" (eV 0))) (aCons (eBin gSub (eV 1) (eC (.int 1))) (aCons (eV 2) (aNil)))))
mutual
noncomputable def S_AlikeMaker_told : Nat → List D → Sto → R D
  | 0 => fun _ _ => .stk
  | n + 1 => U_AlikeMaker_told (S_AlikeMaker_told n) (S_ManyMaker_told n) (S_PickMaker_told n) (S_RisingMaker_told n) (S_RowMaker_told n) (S_UseMaker_told n)
noncomputable def S_ManyMaker_told : Nat → List D → Sto → R D
  | 0 => fun _ _ => .stk
  | n + 1 => U_ManyMaker_told (S_AlikeMaker_told n) (S_ManyMaker_told n) (S_PickMaker_told n) (S_RisingMaker_told n) (S_RowMaker_told n) (S_UseMaker_told n)
noncomputable def S_PickMaker_told : Nat → List D → Sto → R D
  | 0 => fun _ _ => .stk
  | n + 1 => U_PickMaker_told (S_AlikeMaker_told n) (S_ManyMaker_told n) (S_PickMaker_told n) (S_RisingMaker_told n) (S_RowMaker_told n) (S_UseMaker_told n)
noncomputable def S_RisingMaker_told : Nat → List D → Sto → R D
  | 0 => fun _ _ => .stk
  | n + 1 => U_RisingMaker_told (S_AlikeMaker_told n) (S_ManyMaker_told n) (S_PickMaker_told n) (S_RisingMaker_told n) (S_RowMaker_told n) (S_UseMaker_told n)
noncomputable def S_RowMaker_told : Nat → List D → Sto → R D
  | 0 => fun _ _ => .stk
  | n + 1 => U_RowMaker_told (S_AlikeMaker_told n) (S_ManyMaker_told n) (S_PickMaker_told n) (S_RisingMaker_told n) (S_RowMaker_told n) (S_UseMaker_told n)
noncomputable def S_UseMaker_told : Nat → List D → Sto → R D
  | 0 => fun _ _ => .stk
  | n + 1 => U_UseMaker_told (S_AlikeMaker_told n) (S_ManyMaker_told n) (S_PickMaker_told n) (S_RisingMaker_told n) (S_RowMaker_told n) (S_UseMaker_told n)
end
noncomputable def S_Tables_told : List D → Sto → R D := runG 3 (
    sRet (eMeth (mt_told S_WholeMaker_told S_TextMaker_told (S_RowMaker_told 20) (S_ManyMaker_told 20) (S_RisingMaker_told 20) (S_AlikeMaker_told 20) (S_PickMaker_told 20) (S_UseMaker_told 20)) "told" (eAt cl_top "top" (eV 0)) (aCons (eV 1) (aCons (eV 2) (aNil)))))
noncomputable def L_fair_0 : S := sSeq (sAug 5 gAddI (eC (.int 1)))
    (sIf (tV (eBin gLt (eV 6) (eV 4))) (sRet (eTup (aCons (eV 5) (aCons (eBin gMod (eV 6) (eV 2)) (aNil))))) (sNx))
noncomputable def S_fair : List D → Sto → R D := runG 7 (
    sSeq (sIf (tV (eBin gLe (eV 2) (eC (.int 0)))) (sRaise "NoDraw") (sNx))
    (sSeq (sSet 3 (eBin gIx (eFn gDivmod (aCons (eV 1) (aCons (eV 2) (aNil)))) (eC (.int 1))))
    (sSeq (sSet 4 (eBin gSub (eV 1) (eV 3)))
    (sSeq (sSet 5 (eC (.int 0)))
    (sSeq (sFor (iSeq (eV 0)) (.nm 6) (L_fair_0))
    (sRaise "NoDraw"))))))
noncomputable def T_drawn_values_0 : T := tV (eC (.bl true))
noncomputable def L_drawn_values_0 : S := sTryE xt_NoDraw (sAsg (.tp [.nm 9, .nm 10]) (eCall S_fair (aCons (eV 7) (aCons (eV 4) (aCons (eV 6) (aNil)))))) (sBk) (sSeq (sDrop (eApp (eV 8) (eMeth (mt_told_T S_Tables_told) "told" (eV 5) (aCons (eV 2) (aCons (eV 10) (aNil))))))
    (sSet 7 (eSl (eV 7) (oSome (eV 9)) (oNone))))
noncomputable def S_drawn_values : List D → Sto → R D := runG 11 (
    sSeq (sSet 5 (eMake "Tables" S_Tables___init__ (aCons (eV 0) (aCons (eV 1) (aNil)))))
    (sSeq (sDrop (eMeth (mt_grow_to_T S_Tables_grow_to) "grow_to" (eV 5) (aCons (eV 2) (aNil))))
    (sSeq (sSet 6 (eMeth (mt_counts_at_T S_Tables_counts_at) "counts_at" (eV 5) (aCons (eV 2) (aNil))))
    (sSeq (sIf (tV (eBin gEq (eV 6) (eC (.int 0)))) (sRaise "NoDraw") (sNx))
    (sSeq (sSet 7 (eFn gList (aCons (eV 3) (aNil))))
    (sSeq (sSet 8 (eNw (fLst (aNil))))
    (sSeq (whileD (T_drawn_values_0) (L_drawn_values_0) fuel)
    (sRet (eV 8)))))))))
noncomputable def S_l_refused : List D → Sto → R D := runG 7 (
    sSeq (sSet 5 (eC .non))
    (sSeq (sTryS xt_NoDraw 6 (sDrop (eCall S_drawn_values (aCons (eV 0) (aCons (eV 1) (aCons (eV 2) (aCons (eV 3) (aCons (eV 4) (aNil)))))))) (sSet 5 (eV 6)))
    (sSeq (sIf (tOrr (tV (eBin gIsN (eV 5) (eC .non))) (tOrr (tV (eUn (gIsD tb_NoNumber) (eV 5))) (tV (eUn (gIsD tb_TooMany) (eV 5))))) (sRet (eC (.bl false))) (sNx))
    (sRet (eAn (eUn (gIsD tb_CountError) (eV 5)) (eUn (gIsD tb_ValueError) (eV 5)))))))
noncomputable def S_l_signs : List D → Sto → R D := runG 4 (
    sSeq (sSet 2 (eC (.str (Str.ofString "abcdefghijklmnopqrstuvwxyzABCDEFGHIJKLMNOPQRSTUVWXYZ0123456789"))))
    (sRet (eM1 gJoin (eC (.str (Str.ofString ""))) (eFz (fLc (iRange1 (aCons (eV 1) (aNil))) [3] (.nm 3) (tTrue) (eBin gIx (eV 2) (eBin gMod (eBin gAdd (eV 0) (eBin gMul (eC (.int 7)) (eV 3))) (eC (.int 62)))))))))
noncomputable def L_l_value_0 : S := sSeq (sAsg (.tp [.nm 2, .nm 5]) (eFn gDivmod (aCons (eV 2) (aCons (eFn gLen (aCons (eBin gIx (eV 0) (eC (.int 1))) (aNil))) (aNil)))))
    (sSet 3 (eBin gAdd (eBin gIx (eBin gIx (eV 0) (eC (.int 1))) (eV 5)) (eV 3)))
noncomputable def S_l_value : List D → Sto → R D := runG 6 (
    sSeq (sIf (tV (eBin gEq (eBin gIx (eV 0) (eC (.int 0))) (eC (.str (Str.ofString "whole"))))) (sSeq (sIf (tV (eBin gEq (eV 1) (eC (.int 0)))) (sRet (eBin gIx (eV 0) (eC (.int 1)))) (sNx))
    (sRet (eBin gAdd (eBin gAdd (eBin gIx (eV 0) (eC (.int 1))) (eBin gShl (eC (.int 1)) (eBin gSub (eV 1) (eC (.int 1))))) (eV 2)))) (sNx))
    (sSeq (sSet 3 (eC (.str (Str.ofString ""))))
    (sSeq (sFor (iRange1 (aCons (eV 1) (aNil))) (.nm 4) (L_l_value_0))
    (sRet (eV 3)))))
noncomputable def L_law_0 : S := sIf (tV (eBin gLt (eV 10) (eBin gSub (eV 6) (eBin gMod (eV 6) (eV 5))))) (sDrop (eApp (eV 9) (eCall S_l_value (aCons (eV 2) (aCons (eV 3) (aCons (eBin gMod (eV 10) (eV 5)) (aNil))))))) (sNx)
noncomputable def S_law : List D → Sto → R D := runG 15 (
    sSeq (sSet 1 (eBin gSub (eBin gMod (eCall S_l_cell_at (aCons (eV 0) (aCons (eC (.int 1)) (aNil)))) (eBin gPow (eC (.int 10)) (eC (.int 60)))) (eBin gMul (eC (.int 5)) (eBin gPow (eC (.int 10)) (eC (.int 59))))))
    (sSeq (sSet 2 (eTup (aCons (eC (.str (Str.ofString "whole"))) (aCons (eV 1) (aCons (eBin gAdd (eV 1) (eBin gMod (eBin gMul (eCall S_l_cell_at (aCons (eV 0) (aCons (eC (.int 2)) (aNil)))) (eC (.int 48271))) (eC (.int 40009)))) (aNil))))))
    (sSeq (sIf (tV (eBin gEq (eBin gMod (eCall S_l_cell_at (aCons (eV 0) (aCons (eC (.int 0)) (aNil)))) (eC (.int 2))) (eC (.int 1)))) (sSet 2 (eTup (aCons (eC (.str (Str.ofString "text"))) (aCons (eCall S_l_signs (aCons (eCall S_l_cell_at (aCons (eV 0) (aCons (eC (.int 1)) (aNil)))) (aCons (eBin gAdd (eC (.int 1)) (eBin gMod (eCall S_l_cell_at (aCons (eV 0) (aCons (eC (.int 2)) (aNil)))) (eC (.int 62)))) (aNil)))) (aNil))))) (sNx))
    (sSeq (sSet 3 (eBin gMod (eCall S_l_cell_at (aCons (eV 0) (aCons (eC (.int 3)) (aNil)))) (eC (.int 17))))
    (sSeq (sSet 4 (eFz (fLst (aCons (eTup (aCons (eC (.str (Str.ofString "some"))) (aCons (eTup (aCons (eC (.str (Str.ofString "text"))) (aCons (eC (.str (Str.ofString "ab"))) (aNil)))) (aNil)))) (aNil)))))
    (sSeq (sSet 5 (eCall S_l_count (aCons (eV 2) (aCons (eV 3) (aNil)))))
    (sSeq (sSet 6 (eBin gAdd (eC (.int 1)) (eBin gMod (eCall S_l_cell_at (aCons (eV 0) (aCons (eC (.int 4)) (aNil)))) (eBin gPow (eC (.int 10)) (eC (.int 61))))))
    (sSeq (sIf (tV (eBin gNe (eBin gMod (eCall S_l_cell_at (aCons (eV 0) (aCons (eC (.int 4)) (aNil)))) (eC (.int 3))) (eC (.int 0)))) (sSet 6 (eBin gAdd (eC (.int 1)) (eBin gMod (eBin gDiv (eCall S_l_cell_at (aCons (eV 0) (aCons (eC (.int 4)) (aNil)))) (eC (.int 3))) (eBin gAdd (eBin gMul (eC (.int 3)) (eV 5)) (eC (.int 2)))))) (sNx))
    (sSeq (sSet 7 (eCall S_l_cell_at (aCons (eV 0) (aCons (eC (.int 4)) (aNil)))))
    (sSeq (sSet 8 (eFz (fLc (iSeq (eSl (eV 0) (oSome (eC (.int 5))) (oSome (eC (.int 105))))) [13] (.nm 13) (tTrue) (eBin gMod (eV 13) (eV 6)))))
    (sSeq (sSet 8 (eBin gAdd (eV 8) (eFz (fLc (iRange1 (aCons (eBin gMod (eBin gDiv (eV 7) (eC (.int 5))) (eC (.int 13))) (aNil))) [14] (.nm 14) (tTrue) (eBin gMod (eBin gAdd (eV 7) (eBin gMul (eBin gMul (eC (.int 69621)) (eV 14)) (eV 14))) (eV 6))))))
    (sSeq (sIf (tV (eBin gEq (eV 5) (eC (.int 0)))) (sRet (eAn (eCall S_l_refused (aCons (eV 4) (aCons (eV 2) (aCons (eV 3) (aCons (eFn gList (aCons (eV 8) (aNil))) (aCons (eV 6) (aNil))))))) (eCall S_l_refused (aCons (eV 4) (aCons (eV 2) (aCons (eV 3) (aCons (eFz (fLst (aNil))) (aCons (eV 6) (aNil))))))))) (sNx))
    (sSeq (sSet 9 (eNw (fLst (aNil))))
    (sSeq (sFor (iSeq (eV 8)) (.nm 10) (L_law_0))
    (sSeq (sSet 11 (eNw (fList (eV 8))))
    (sSeq (sSet 12 (eCall S_drawn_values (aCons (eV 4) (aCons (eV 2) (aCons (eV 3) (aCons (eV 11) (aCons (eV 6) (aNil))))))))
    (sSeq (sIf (tOrr (tNt (tV (eCallB S_l_alike (aCons (eV 12) (aCons (eV 9) (aNil)))))) (tV (eBin gNe (eV 11) (eV 8)))) (sRet (eC (.bl false))) (sNx))
    (sSeq (sDrop (eApp (eV 12) (eC (.int 0))))
    (sSeq (sDrop (eApp (eV 11) (eC (.int 0))))
    (sSeq (sIf (tV (eBin gNe (eCall S_drawn_values (aCons (eV 4) (aCons (eV 2) (aCons (eV 3) (aCons (eFz (fLst (aNil))) (aCons (eV 6) (aNil))))))) (eFz (fLst (aNil))))) (sRet (eC (.bl false))) (sNx))
    (sRet (eCallB S_l_alike (aCons (eCall S_drawn_values (aCons (eV 4) (aCons (eV 2) (aCons (eV 3) (aCons (eV 8) (aCons (eV 6) (aNil))))))) (aCons (eV 9) (aNil)))))))))))))))))))))))))
/-! they keep it -/
section
variable {P : Program} {w : World} {K : PySem.W.Frag} {mg : Str → Option Value} {base : Heap} {ct : String → Addr}
theorem mts_among {k : Nat} {a_RisingMaker_among : Addr} {fd_RisingMaker_among : FuncData} {f_RisingMaker_among : List D → Sto → R D} (G_RisingMaker_among : FnOk P w K mg base (L2.CX P w) k a_RisingMaker_among fd_RisingMaker_among P_RisingMaker_among (spG K ct 3 f_RisingMaker_among)) (B_RisingMaker_among : Binds K fd_RisingMaker_among P_RisingMaker_among []) {a_UnlikeMaker_among : Addr} {fd_UnlikeMaker_among : FuncData} {f_UnlikeMaker_among : List D → Sto → R D} (G_UnlikeMaker_among : FnOk P w K mg base (L2.CX P w) k a_UnlikeMaker_among fd_UnlikeMaker_among P_UnlikeMaker_among (spG K ct 3 f_UnlikeMaker_among)) (B_UnlikeMaker_among : Binds K fd_UnlikeMaker_among P_UnlikeMaker_among []) (CL_RisingMaker : Cls K (ct "RisingMaker")) (ME_RisingMaker : Meth K (ct "RisingMaker") "among" a_RisingMaker_among) (CL_UnlikeMaker : Cls K (ct "UnlikeMaker")) (ME_UnlikeMaker : Meth K (ct "UnlikeMaker") "among" a_UnlikeMaker_among) :
    MtsOk P w K mg base ct k 3 "among" (mt_among f_RisingMaker_among f_UnlikeMaker_among) := by
  intro c F hF
  unfold mt_among at hF
  split at hF
  · rename_i e; subst e; cases hF; exact ⟨CL_RisingMaker, _, _, _, ME_RisingMaker, G_RisingMaker_among, B_RisingMaker_among⟩
  split at hF
  · rename_i e; subst e; cases hF; exact ⟨CL_UnlikeMaker, _, _, _, ME_UnlikeMaker, G_UnlikeMaker_among, B_UnlikeMaker_among⟩
  exact nomatch hF
theorem mts_beyond {k : Nat} {a_RisingMaker_beyond : Addr} {fd_RisingMaker_beyond : FuncData} {f_RisingMaker_beyond : List D → Sto → R D} (G_RisingMaker_beyond : FnOk P w K mg base (L2.CX P w) k a_RisingMaker_beyond fd_RisingMaker_beyond P_RisingMaker_beyond (spG K ct 3 f_RisingMaker_beyond)) (B_RisingMaker_beyond : Binds K fd_RisingMaker_beyond P_RisingMaker_beyond []) (CL_RisingMaker : Cls K (ct "RisingMaker")) (ME_RisingMaker : Meth K (ct "RisingMaker") "beyond" a_RisingMaker_beyond) (CL_UnlikeMaker : Cls K (ct "UnlikeMaker")) (ME_UnlikeMaker : Meth K (ct "UnlikeMaker") "beyond" a_RisingMaker_beyond) :
    MtsOk P w K mg base ct k 3 "beyond" (mt_beyond f_RisingMaker_beyond) := by
  intro c F hF
  unfold mt_beyond at hF
  split at hF
  · rename_i e; subst e; cases hF; exact ⟨CL_RisingMaker, _, _, _, ME_RisingMaker, G_RisingMaker_beyond, B_RisingMaker_beyond⟩
  split at hF
  · rename_i e; subst e; cases hF; exact ⟨CL_UnlikeMaker, _, _, _, ME_UnlikeMaker, G_RisingMaker_beyond, B_RisingMaker_beyond⟩
  exact nomatch hF
theorem mts_block {k : Nat} {a_RisingMaker_block : Addr} {fd_RisingMaker_block : FuncData} {f_RisingMaker_block : List D → Sto → R D} (G_RisingMaker_block : FnOk P w K mg base (L2.CX P w) k a_RisingMaker_block fd_RisingMaker_block P_RisingMaker_block (spG K ct 4 f_RisingMaker_block)) (B_RisingMaker_block : Binds K fd_RisingMaker_block P_RisingMaker_block []) (CL_RisingMaker : Cls K (ct "RisingMaker")) (ME_RisingMaker : Meth K (ct "RisingMaker") "block" a_RisingMaker_block) (CL_UnlikeMaker : Cls K (ct "UnlikeMaker")) (ME_UnlikeMaker : Meth K (ct "UnlikeMaker") "block" a_RisingMaker_block) :
    MtsOk P w K mg base ct k 4 "block" (mt_block f_RisingMaker_block) := by
  intro c F hF
  unfold mt_block at hF
  split at hF
  · rename_i e; subst e; cases hF; exact ⟨CL_RisingMaker, _, _, _, ME_RisingMaker, G_RisingMaker_block, B_RisingMaker_block⟩
  split at hF
  · rename_i e; subst e; cases hF; exact ⟨CL_UnlikeMaker, _, _, _, ME_UnlikeMaker, G_RisingMaker_block, B_RisingMaker_block⟩
  exact nomatch hF
theorem mts_chosen_at {k : Nat} {a_RisingMaker_chosen_at : Addr} {fd_RisingMaker_chosen_at : FuncData} {f_RisingMaker_chosen_at : List D → Sto → R D} (G_RisingMaker_chosen_at : FnOk P w K mg base (L2.CX P w) k a_RisingMaker_chosen_at fd_RisingMaker_chosen_at P_RisingMaker_chosen_at (spG K ct 3 f_RisingMaker_chosen_at)) (B_RisingMaker_chosen_at : Binds K fd_RisingMaker_chosen_at P_RisingMaker_chosen_at []) {a_UnlikeMaker_chosen_at : Addr} {fd_UnlikeMaker_chosen_at : FuncData} {f_UnlikeMaker_chosen_at : List D → Sto → R D} (G_UnlikeMaker_chosen_at : FnOk P w K mg base (L2.CX P w) k a_UnlikeMaker_chosen_at fd_UnlikeMaker_chosen_at P_UnlikeMaker_chosen_at (spG K ct 3 f_UnlikeMaker_chosen_at)) (B_UnlikeMaker_chosen_at : Binds K fd_UnlikeMaker_chosen_at P_UnlikeMaker_chosen_at []) (CL_RisingMaker : Cls K (ct "RisingMaker")) (ME_RisingMaker : Meth K (ct "RisingMaker") "chosen_at" a_RisingMaker_chosen_at) (CL_UnlikeMaker : Cls K (ct "UnlikeMaker")) (ME_UnlikeMaker : Meth K (ct "UnlikeMaker") "chosen_at" a_UnlikeMaker_chosen_at) :
    MtsOk P w K mg base ct k 3 "chosen_at" (mt_chosen_at f_RisingMaker_chosen_at f_UnlikeMaker_chosen_at) := by
  intro c F hF
  unfold mt_chosen_at at hF
  split at hF
  · rename_i e; subst e; cases hF; exact ⟨CL_RisingMaker, _, _, _, ME_RisingMaker, G_RisingMaker_chosen_at, B_RisingMaker_chosen_at⟩
  split at hF
  · rename_i e; subst e; cases hF; exact ⟨CL_UnlikeMaker, _, _, _, ME_UnlikeMaker, G_UnlikeMaker_chosen_at, B_UnlikeMaker_chosen_at⟩
  exact nomatch hF
theorem mts_counts_at_T {k : Nat} {a_Tables_counts_at : Addr} {fd_Tables_counts_at : FuncData} {f_Tables_counts_at : List D → Sto → R D} (G_Tables_counts_at : FnOk P w K mg base (L2.CX P w) k a_Tables_counts_at fd_Tables_counts_at P_Tables_counts_at (spG K ct 2 f_Tables_counts_at)) (B_Tables_counts_at : Binds K fd_Tables_counts_at P_Tables_counts_at []) (CL_Tables : Cls K (ct "Tables")) (ME_Tables : Meth K (ct "Tables") "counts_at" a_Tables_counts_at) :
    MtsOk P w K mg base ct k 2 "counts_at" (mt_counts_at_T f_Tables_counts_at) := by
  intro c F hF
  unfold mt_counts_at_T at hF
  split at hF
  · rename_i e; subst e; cases hF; exact ⟨CL_Tables, _, _, _, ME_Tables, G_Tables_counts_at, B_Tables_counts_at⟩
  exact nomatch hF
theorem mts_grow {k : Nat} {a_Maker_grow : Addr} {fd_Maker_grow : FuncData} {f_Maker_grow : List D → Sto → R D} (G_Maker_grow : FnOk P w K mg base (L2.CX P w) k a_Maker_grow fd_Maker_grow P_Maker_grow (spG K ct 1 f_Maker_grow)) (B_Maker_grow : Binds K fd_Maker_grow P_Maker_grow []) (CL_WholeMaker : Cls K (ct "WholeMaker")) (ME_WholeMaker : Meth K (ct "WholeMaker") "grow" a_Maker_grow) (CL_TextMaker : Cls K (ct "TextMaker")) (ME_TextMaker : Meth K (ct "TextMaker") "grow" a_Maker_grow) (CL_RowMaker : Cls K (ct "RowMaker")) (ME_RowMaker : Meth K (ct "RowMaker") "grow" a_Maker_grow) (CL_ManyMaker : Cls K (ct "ManyMaker")) (ME_ManyMaker : Meth K (ct "ManyMaker") "grow" a_Maker_grow) (CL_RisingMaker : Cls K (ct "RisingMaker")) (ME_RisingMaker : Meth K (ct "RisingMaker") "grow" a_Maker_grow) (CL_UnlikeMaker : Cls K (ct "UnlikeMaker")) (ME_UnlikeMaker : Meth K (ct "UnlikeMaker") "grow" a_Maker_grow) (CL_AlikeMaker : Cls K (ct "AlikeMaker")) (ME_AlikeMaker : Meth K (ct "AlikeMaker") "grow" a_Maker_grow) (CL_PickMaker : Cls K (ct "PickMaker")) (ME_PickMaker : Meth K (ct "PickMaker") "grow" a_Maker_grow) (CL_UseMaker : Cls K (ct "UseMaker")) (ME_UseMaker : Meth K (ct "UseMaker") "grow" a_Maker_grow) :
    MtsOk P w K mg base ct k 1 "grow" (mt_grow f_Maker_grow) := by
  intro c F hF
  unfold mt_grow at hF
  split at hF
  · rename_i e; subst e; cases hF; exact ⟨CL_WholeMaker, _, _, _, ME_WholeMaker, G_Maker_grow, B_Maker_grow⟩
  split at hF
  · rename_i e; subst e; cases hF; exact ⟨CL_TextMaker, _, _, _, ME_TextMaker, G_Maker_grow, B_Maker_grow⟩
  split at hF
  · rename_i e; subst e; cases hF; exact ⟨CL_RowMaker, _, _, _, ME_RowMaker, G_Maker_grow, B_Maker_grow⟩
  split at hF
  · rename_i e; subst e; cases hF; exact ⟨CL_ManyMaker, _, _, _, ME_ManyMaker, G_Maker_grow, B_Maker_grow⟩
  split at hF
  · rename_i e; subst e; cases hF; exact ⟨CL_RisingMaker, _, _, _, ME_RisingMaker, G_Maker_grow, B_Maker_grow⟩
  split at hF
  · rename_i e; subst e; cases hF; exact ⟨CL_UnlikeMaker, _, _, _, ME_UnlikeMaker, G_Maker_grow, B_Maker_grow⟩
  split at hF
  · rename_i e; subst e; cases hF; exact ⟨CL_AlikeMaker, _, _, _, ME_AlikeMaker, G_Maker_grow, B_Maker_grow⟩
  split at hF
  · rename_i e; subst e; cases hF; exact ⟨CL_PickMaker, _, _, _, ME_PickMaker, G_Maker_grow, B_Maker_grow⟩
  split at hF
  · rename_i e; subst e; cases hF; exact ⟨CL_UseMaker, _, _, _, ME_UseMaker, G_Maker_grow, B_Maker_grow⟩
  exact nomatch hF
theorem mts_grow_to_T {k : Nat} {a_Tables_grow_to : Addr} {fd_Tables_grow_to : FuncData} {f_Tables_grow_to : List D → Sto → R D} (G_Tables_grow_to : FnOk P w K mg base (L2.CX P w) k a_Tables_grow_to fd_Tables_grow_to P_Tables_grow_to (spG K ct 2 f_Tables_grow_to)) (B_Tables_grow_to : Binds K fd_Tables_grow_to P_Tables_grow_to []) (CL_Tables : Cls K (ct "Tables")) (ME_Tables : Meth K (ct "Tables") "grow_to" a_Tables_grow_to) :
    MtsOk P w K mg base ct k 2 "grow_to" (mt_grow_to_T f_Tables_grow_to) := by
  intro c F hF
  unfold mt_grow_to_T at hF
  split at hF
  · rename_i e; subst e; cases hF; exact ⟨CL_Tables, _, _, _, ME_Tables, G_Tables_grow_to, B_Tables_grow_to⟩
  exact nomatch hF
theorem mts_next_count {k : Nat} {a_WholeMaker_next_count : Addr} {fd_WholeMaker_next_count : FuncData} {f_WholeMaker_next_count : List D → Sto → R D} (G_WholeMaker_next_count : FnOk P w K mg base (L2.CX P w) k a_WholeMaker_next_count fd_WholeMaker_next_count P_WholeMaker_next_count (spG K ct 2 f_WholeMaker_next_count)) (B_WholeMaker_next_count : Binds K fd_WholeMaker_next_count P_WholeMaker_next_count []) {a_TextMaker_next_count : Addr} {fd_TextMaker_next_count : FuncData} {f_TextMaker_next_count : List D → Sto → R D} (G_TextMaker_next_count : FnOk P w K mg base (L2.CX P w) k a_TextMaker_next_count fd_TextMaker_next_count P_TextMaker_next_count (spG K ct 2 f_TextMaker_next_count)) (B_TextMaker_next_count : Binds K fd_TextMaker_next_count P_TextMaker_next_count []) {a_RowMaker_next_count : Addr} {fd_RowMaker_next_count : FuncData} {f_RowMaker_next_count : List D → Sto → R D} (G_RowMaker_next_count : FnOk P w K mg base (L2.CX P w) k a_RowMaker_next_count fd_RowMaker_next_count P_RowMaker_next_count (spG K ct 2 f_RowMaker_next_count)) (B_RowMaker_next_count : Binds K fd_RowMaker_next_count P_RowMaker_next_count []) {a_ManyMaker_next_count : Addr} {fd_ManyMaker_next_count : FuncData} {f_ManyMaker_next_count : List D → Sto → R D} (G_ManyMaker_next_count : FnOk P w K mg base (L2.CX P w) k a_ManyMaker_next_count fd_ManyMaker_next_count P_ManyMaker_next_count (spG K ct 2 f_ManyMaker_next_count)) (B_ManyMaker_next_count : Binds K fd_ManyMaker_next_count P_ManyMaker_next_count []) {a_RisingMaker_next_count : Addr} {fd_RisingMaker_next_count : FuncData} {f_RisingMaker_next_count : List D → Sto → R D} (G_RisingMaker_next_count : FnOk P w K mg base (L2.CX P w) k a_RisingMaker_next_count fd_RisingMaker_next_count P_RisingMaker_next_count (spG K ct 2 f_RisingMaker_next_count)) (B_RisingMaker_next_count : Binds K fd_RisingMaker_next_count P_RisingMaker_next_count []) {a_AlikeMaker_next_count : Addr} {fd_AlikeMaker_next_count : FuncData} {f_AlikeMaker_next_count : List D → Sto → R D} (G_AlikeMaker_next_count : FnOk P w K mg base (L2.CX P w) k a_AlikeMaker_next_count fd_AlikeMaker_next_count P_AlikeMaker_next_count (spG K ct 2 f_AlikeMaker_next_count)) (B_AlikeMaker_next_count : Binds K fd_AlikeMaker_next_count P_AlikeMaker_next_count []) {a_PickMaker_next_count : Addr} {fd_PickMaker_next_count : FuncData} {f_PickMaker_next_count : List D → Sto → R D} (G_PickMaker_next_count : FnOk P w K mg base (L2.CX P w) k a_PickMaker_next_count fd_PickMaker_next_count P_PickMaker_next_count (spG K ct 2 f_PickMaker_next_count)) (B_PickMaker_next_count : Binds K fd_PickMaker_next_count P_PickMaker_next_count []) {a_UseMaker_next_count : Addr} {fd_UseMaker_next_count : FuncData} {f_UseMaker_next_count : List D → Sto → R D} (G_UseMaker_next_count : FnOk P w K mg base (L2.CX P w) k a_UseMaker_next_count fd_UseMaker_next_count P_UseMaker_next_count (spG K ct 2 f_UseMaker_next_count)) (B_UseMaker_next_count : Binds K fd_UseMaker_next_count P_UseMaker_next_count []) (CL_WholeMaker : Cls K (ct "WholeMaker")) (ME_WholeMaker : Meth K (ct "WholeMaker") "next_count" a_WholeMaker_next_count) (CL_TextMaker : Cls K (ct "TextMaker")) (ME_TextMaker : Meth K (ct "TextMaker") "next_count" a_TextMaker_next_count) (CL_RowMaker : Cls K (ct "RowMaker")) (ME_RowMaker : Meth K (ct "RowMaker") "next_count" a_RowMaker_next_count) (CL_ManyMaker : Cls K (ct "ManyMaker")) (ME_ManyMaker : Meth K (ct "ManyMaker") "next_count" a_ManyMaker_next_count) (CL_RisingMaker : Cls K (ct "RisingMaker")) (ME_RisingMaker : Meth K (ct "RisingMaker") "next_count" a_RisingMaker_next_count) (CL_UnlikeMaker : Cls K (ct "UnlikeMaker")) (ME_UnlikeMaker : Meth K (ct "UnlikeMaker") "next_count" a_RisingMaker_next_count) (CL_AlikeMaker : Cls K (ct "AlikeMaker")) (ME_AlikeMaker : Meth K (ct "AlikeMaker") "next_count" a_AlikeMaker_next_count) (CL_PickMaker : Cls K (ct "PickMaker")) (ME_PickMaker : Meth K (ct "PickMaker") "next_count" a_PickMaker_next_count) (CL_UseMaker : Cls K (ct "UseMaker")) (ME_UseMaker : Meth K (ct "UseMaker") "next_count" a_UseMaker_next_count) :
    MtsOk P w K mg base ct k 2 "next_count" (mt_next_count f_WholeMaker_next_count f_TextMaker_next_count f_RowMaker_next_count f_ManyMaker_next_count f_RisingMaker_next_count f_AlikeMaker_next_count f_PickMaker_next_count f_UseMaker_next_count) := by
  intro c F hF
  unfold mt_next_count at hF
  split at hF
  · rename_i e; subst e; cases hF; exact ⟨CL_WholeMaker, _, _, _, ME_WholeMaker, G_WholeMaker_next_count, B_WholeMaker_next_count⟩
  split at hF
  · rename_i e; subst e; cases hF; exact ⟨CL_TextMaker, _, _, _, ME_TextMaker, G_TextMaker_next_count, B_TextMaker_next_count⟩
  split at hF
  · rename_i e; subst e; cases hF; exact ⟨CL_RowMaker, _, _, _, ME_RowMaker, G_RowMaker_next_count, B_RowMaker_next_count⟩
  split at hF
  · rename_i e; subst e; cases hF; exact ⟨CL_ManyMaker, _, _, _, ME_ManyMaker, G_ManyMaker_next_count, B_ManyMaker_next_count⟩
  split at hF
  · rename_i e; subst e; cases hF; exact ⟨CL_RisingMaker, _, _, _, ME_RisingMaker, G_RisingMaker_next_count, B_RisingMaker_next_count⟩
  split at hF
  · rename_i e; subst e; cases hF; exact ⟨CL_UnlikeMaker, _, _, _, ME_UnlikeMaker, G_RisingMaker_next_count, B_RisingMaker_next_count⟩
  split at hF
  · rename_i e; subst e; cases hF; exact ⟨CL_AlikeMaker, _, _, _, ME_AlikeMaker, G_AlikeMaker_next_count, B_AlikeMaker_next_count⟩
  split at hF
  · rename_i e; subst e; cases hF; exact ⟨CL_PickMaker, _, _, _, ME_PickMaker, G_PickMaker_next_count, B_PickMaker_next_count⟩
  split at hF
  · rename_i e; subst e; cases hF; exact ⟨CL_UseMaker, _, _, _, ME_UseMaker, G_UseMaker_next_count, B_UseMaker_next_count⟩
  exact nomatch hF
theorem mts_told_T {k : Nat} {a_Tables_told : Addr} {fd_Tables_told : FuncData} {f_Tables_told : List D → Sto → R D} (G_Tables_told : FnOk P w K mg base (L2.CX P w) k a_Tables_told fd_Tables_told P_Tables_told (spG K ct 3 f_Tables_told)) (B_Tables_told : Binds K fd_Tables_told P_Tables_told []) (CL_Tables : Cls K (ct "Tables")) (ME_Tables : Meth K (ct "Tables") "told" a_Tables_told) :
    MtsOk P w K mg base ct k 3 "told" (mt_told_T f_Tables_told) := by
  intro c F hF
  unfold mt_told_T at hF
  split at hF
  · rename_i e; subst e; cases hF; exact ⟨CL_Tables, _, _, _, ME_Tables, G_Tables_told, B_Tables_told⟩
  exact nomatch hF
theorem mts_told {k : Nat} {a_WholeMaker_told : Addr} {fd_WholeMaker_told : FuncData} {f_WholeMaker_told : List D → Sto → R D} (G_WholeMaker_told : FnOk P w K mg base (L2.CX P w) k a_WholeMaker_told fd_WholeMaker_told P_WholeMaker_told (spG K ct 3 f_WholeMaker_told)) (B_WholeMaker_told : Binds K fd_WholeMaker_told P_WholeMaker_told []) {a_TextMaker_told : Addr} {fd_TextMaker_told : FuncData} {f_TextMaker_told : List D → Sto → R D} (G_TextMaker_told : FnOk P w K mg base (L2.CX P w) k a_TextMaker_told fd_TextMaker_told P_TextMaker_told (spG K ct 3 f_TextMaker_told)) (B_TextMaker_told : Binds K fd_TextMaker_told P_TextMaker_told []) {a_RowMaker_told : Addr} {fd_RowMaker_told : FuncData} {f_RowMaker_told : List D → Sto → R D} (G_RowMaker_told : FnOk P w K mg base (L2.CX P w) k a_RowMaker_told fd_RowMaker_told P_RowMaker_told (spG K ct 3 f_RowMaker_told)) (B_RowMaker_told : Binds K fd_RowMaker_told P_RowMaker_told []) {a_ManyMaker_told : Addr} {fd_ManyMaker_told : FuncData} {f_ManyMaker_told : List D → Sto → R D} (G_ManyMaker_told : FnOk P w K mg base (L2.CX P w) k a_ManyMaker_told fd_ManyMaker_told P_ManyMaker_told (spG K ct 3 f_ManyMaker_told)) (B_ManyMaker_told : Binds K fd_ManyMaker_told P_ManyMaker_told []) {a_RisingMaker_told : Addr} {fd_RisingMaker_told : FuncData} {f_RisingMaker_told : List D → Sto → R D} (G_RisingMaker_told : FnOk P w K mg base (L2.CX P w) k a_RisingMaker_told fd_RisingMaker_told P_RisingMaker_told (spG K ct 3 f_RisingMaker_told)) (B_RisingMaker_told : Binds K fd_RisingMaker_told P_RisingMaker_told []) {a_AlikeMaker_told : Addr} {fd_AlikeMaker_told : FuncData} {f_AlikeMaker_told : List D → Sto → R D} (G_AlikeMaker_told : FnOk P w K mg base (L2.CX P w) k a_AlikeMaker_told fd_AlikeMaker_told P_AlikeMaker_told (spG K ct 3 f_AlikeMaker_told)) (B_AlikeMaker_told : Binds K fd_AlikeMaker_told P_AlikeMaker_told []) {a_PickMaker_told : Addr} {fd_PickMaker_told : FuncData} {f_PickMaker_told : List D → Sto → R D} (G_PickMaker_told : FnOk P w K mg base (L2.CX P w) k a_PickMaker_told fd_PickMaker_told P_PickMaker_told (spG K ct 3 f_PickMaker_told)) (B_PickMaker_told : Binds K fd_PickMaker_told P_PickMaker_told []) {a_UseMaker_told : Addr} {fd_UseMaker_told : FuncData} {f_UseMaker_told : List D → Sto → R D} (G_UseMaker_told : FnOk P w K mg base (L2.CX P w) k a_UseMaker_told fd_UseMaker_told P_UseMaker_told (spG K ct 3 f_UseMaker_told)) (B_UseMaker_told : Binds K fd_UseMaker_told P_UseMaker_told []) (CL_WholeMaker : Cls K (ct "WholeMaker")) (ME_WholeMaker : Meth K (ct "WholeMaker") "told" a_WholeMaker_told) (CL_TextMaker : Cls K (ct "TextMaker")) (ME_TextMaker : Meth K (ct "TextMaker") "told" a_TextMaker_told) (CL_RowMaker : Cls K (ct "RowMaker")) (ME_RowMaker : Meth K (ct "RowMaker") "told" a_RowMaker_told) (CL_ManyMaker : Cls K (ct "ManyMaker")) (ME_ManyMaker : Meth K (ct "ManyMaker") "told" a_ManyMaker_told) (CL_RisingMaker : Cls K (ct "RisingMaker")) (ME_RisingMaker : Meth K (ct "RisingMaker") "told" a_RisingMaker_told) (CL_UnlikeMaker : Cls K (ct "UnlikeMaker")) (ME_UnlikeMaker : Meth K (ct "UnlikeMaker") "told" a_RisingMaker_told) (CL_AlikeMaker : Cls K (ct "AlikeMaker")) (ME_AlikeMaker : Meth K (ct "AlikeMaker") "told" a_AlikeMaker_told) (CL_PickMaker : Cls K (ct "PickMaker")) (ME_PickMaker : Meth K (ct "PickMaker") "told" a_PickMaker_told) (CL_UseMaker : Cls K (ct "UseMaker")) (ME_UseMaker : Meth K (ct "UseMaker") "told" a_UseMaker_told) :
    MtsOk P w K mg base ct k 3 "told" (mt_told f_WholeMaker_told f_TextMaker_told f_RowMaker_told f_ManyMaker_told f_RisingMaker_told f_AlikeMaker_told f_PickMaker_told f_UseMaker_told) := by
  intro c F hF
  unfold mt_told at hF
  split at hF
  · rename_i e; subst e; cases hF; exact ⟨CL_WholeMaker, _, _, _, ME_WholeMaker, G_WholeMaker_told, B_WholeMaker_told⟩
  split at hF
  · rename_i e; subst e; cases hF; exact ⟨CL_TextMaker, _, _, _, ME_TextMaker, G_TextMaker_told, B_TextMaker_told⟩
  split at hF
  · rename_i e; subst e; cases hF; exact ⟨CL_RowMaker, _, _, _, ME_RowMaker, G_RowMaker_told, B_RowMaker_told⟩
  split at hF
  · rename_i e; subst e; cases hF; exact ⟨CL_ManyMaker, _, _, _, ME_ManyMaker, G_ManyMaker_told, B_ManyMaker_told⟩
  split at hF
  · rename_i e; subst e; cases hF; exact ⟨CL_RisingMaker, _, _, _, ME_RisingMaker, G_RisingMaker_told, B_RisingMaker_told⟩
  split at hF
  · rename_i e; subst e; cases hF; exact ⟨CL_UnlikeMaker, _, _, _, ME_UnlikeMaker, G_RisingMaker_told, B_RisingMaker_told⟩
  split at hF
  · rename_i e; subst e; cases hF; exact ⟨CL_AlikeMaker, _, _, _, ME_AlikeMaker, G_AlikeMaker_told, B_AlikeMaker_told⟩
  split at hF
  · rename_i e; subst e; cases hF; exact ⟨CL_PickMaker, _, _, _, ME_PickMaker, G_PickMaker_told, B_PickMaker_told⟩
  split at hF
  · rename_i e; subst e; cases hF; exact ⟨CL_UseMaker, _, _, _, ME_UseMaker, G_UseMaker_told, B_UseMaker_told⟩
  exact nomatch hF
set_option maxHeartbeats 4000000 in
theorem ok_l_alike {a : Addr} {fd : FuncData} (F : L2.Fun K "_law_alike" "_law_alike" s_l_alike a fd) (Z_bool : mg "bool" = none) (Z_int : mg "int" = none) (Z_isinstance : mg "isinstance" = none) (Z_len : mg "len" = none) (Z_list : mg "list" = none) (Z_str : mg "str" = none) (Z_zip : mg "zip" = none) :
    FnOk P w K mg base (L2.CX P w) 1 a fd P_l_alike (spG K ct 2 S_l_alike) := by
  refine fn_ok (N := N_l_alike) (ct := ct) F sc_l_alike (by decide) (fun cdv A outer s H v E hr => ?_)
  have nd := sc_l_alike.nd
  exact ss_cons (ss_if (PW.pt (sw_or (st_not (st_val (se_isi (n := "list") (se_var 0) rfl Z_isinstance rfl Z_list (by decide +kernel)))) (sw_or1 (st_cmp (o_ne (hu_big hr)) (se_callB (b_len) rfl Z_len (by decide +kernel) (sa_cons (se_var 0) (sa_nil))) (se_callB (b_len) rfl Z_len (by decide +kernel) (sa_cons (se_var 1) (sa_nil))))))) (ss_one (ss_ret (se_bl))) (ss_nil))
    (ss_cons (ss_for (passes_of rfl) rfl (si_zip rfl Z_zip (sa_cons (se_var 0) (sa_cons (se_var 1) (sa_nil)))) (sg_tup rfl (sgs_cons (sg_name 2 nd) (sgs_cons (sg_name 3 nd) (sgs_nil)))) (ss_cons (ss_if (PW.pt (sw_or (st_val (se_isi (n := "bool") (se_var 2) rfl Z_isinstance rfl Z_bool (by decide +kernel))) (sw_or1 (st_cmp (o_ne (hu_big hr)) (se_isi (n := "int") (se_var 2) rfl Z_isinstance rfl Z_int (by decide +kernel)) (se_isi (n := "int") (se_var 3) rfl Z_isinstance rfl Z_int (by decide +kernel)))))) (ss_one (ss_ret (se_bl))) (ss_nil))
    (ss_one (ss_if (PW.pt (sw_or (st_cmp (o_ne (hu_big hr)) (se_isi (n := "str") (se_var 2) rfl Z_isinstance rfl Z_str (by decide +kernel)) (se_isi (n := "str") (se_var 3) rfl Z_isinstance rfl Z_str (by decide +kernel))) (sw_or1 (st_cmp (o_ne (hu_big hr)) (se_var 2) (se_var 3))))) (ss_one (ss_ret (se_bl))) (ss_nil)))))
    (ss_one (ss_ret (se_bl))))
set_option maxHeartbeats 4000000 in
theorem ok_l_cell_at {a : Addr} {fd : FuncData} (F : L2.Fun K "_law_cell_at" "_law_cell_at" s_l_cell_at a fd) (Z_len : mg "len" = none) :
    FnOk P w K mg base (L2.CX P w) 1 a fd P_l_cell_at (spG K ct 2 S_l_cell_at) := by
  refine fn_ok (N := N_l_cell_at) (ct := ct) F sc_l_cell_at (by decide) (fun cdv A outer s H v E hr => ?_)
  have nd := sc_l_cell_at.nd
  exact ss_cons (ss_if (st_cmp o_lt (se_var 1) (se_callB (b_len) rfl Z_len (by decide +kernel) (sa_cons (se_var 0) (sa_nil)))) (ss_one (ss_ret (se_ix (se_var 0) (se_var 1)))) (ss_nil))
    (ss_one (ss_ret (se_int)))
set_option maxHeartbeats 4000000 in
theorem ok_l_count {a : Addr} {fd : FuncData} (F : L2.Fun K "_law_count" "_law_count" s_l_count a fd) (Z_len : mg "len" = none) (Z_max : mg "max" = none) (Z_min : mg "min" = none) (Z_range : mg "range" = none) :
    FnOk P w K mg base (L2.CX P w) 1 a fd P_l_count (spG K ct 2 S_l_count) := by
  refine fn_ok (N := N_l_count) (ct := ct) F sc_l_count (by decide) (fun cdv A outer s H v E hr => ?_)
  have nd := sc_l_count.nd
  exact ss_cons (ss_if (st_cmp (o_eq (hu_big hr)) (se_ix (se_var 0) (se_int)) (se_str)) (ss_cons (ss_set 2 (se_int) nd)
    (ss_cons (ss_for (passes_of rfl) rfl (si_range1 rfl Z_range (sa_cons (se_var 1) (sa_nil))) (sg_name 3 nd) (ss_one (ss_set 2 (se_bin o_mul (se_var 2) (se_callB (b_len) rfl Z_len (by decide +kernel) (sa_cons (se_ix (se_var 0) (se_int)) (sa_nil)))) nd)))
    (ss_one (ss_ret (se_var 2))))) (ss_nil))
    (ss_cons (ss_set 4 (se_bin o_sub (se_ix (se_var 0) (se_int)) (se_ix (se_var 0) (se_int))) nd)
    (ss_cons (ss_if (st_cmp (o_eq (hu_big hr)) (se_var 1) (se_int)) (ss_one (ss_ret (se_int))) (ss_nil))
    (ss_one (ss_ret (se_callB (b_max2 rfl) rfl Z_max (by decide +kernel) (sa_cons (se_int) (sa_cons (se_bin o_add (se_bin o_sub (se_callB (b_min2 rfl) rfl Z_min (by decide +kernel) (sa_cons (se_var 4) (sa_cons (se_bin o_sub (se_bin o_shl (se_int) (se_var 1)) (se_int)) (sa_nil)))) (se_bin o_shl (se_int) (se_bin o_sub (se_var 1) (se_int)))) (se_int)) (sa_nil))))))))
set_option maxHeartbeats 4000000 in
theorem ok_Maker___init__ {a : Addr} {fd : FuncData} (F : L2.Fun K "__init__" "Maker.__init__" s_Maker___init__ a fd) (AT_counts : ClAt K ct cl_counts "counts") (AT_within : ClAt K ct cl_within "within") :
    FnOk P w K mg base (L2.CX P w) 1 a fd P_Maker___init__ (spG K ct 2 S_Maker___init__) := by
  refine fn_ok (N := N_Maker___init__) (ct := ct) F sc_Maker___init__ (by decide) (fun cdv A outer s H v E hr => ?_)
  have nd := sc_Maker___init__.nd
  exact ss_cons (ss_setAt AT_within (se_var 0) (se_var 1))
    (ss_one (ss_setAt AT_counts (se_var 0) (SF.nw (sf_lst (sa_nil)))))
set_option maxHeartbeats 4000000 in
theorem ok_AlikeMaker___init__ {a : Addr} {fd : FuncData} (F : L2.Fun K "__init__" "AlikeMaker.__init__" s_AlikeMaker___init__ a fd) {a_Maker___init__ : Addr} {f_Maker___init__ : FuncData} (G_Maker___init__ : FnOk P w K mg base (L2.CX P w) 1 a_Maker___init__ f_Maker___init__ P_Maker___init__ (spG K ct 2 S_Maker___init__)) (B_Maker___init__ : Binds K f_Maker___init__ P_Maker___init__ []) (CF_Maker___init__ : CfOk K (ct "Maker") a_Maker___init__ "__init__") (AT_times : ClAt K ct cl_times "times") (GC_Maker : mg "Maker" = some (.ref (ct "Maker"))) :
    FnOk P w K mg base (L2.CX P w) 2 a fd P_AlikeMaker___init__ (spG K ct 3 S_AlikeMaker___init__) := by
  refine fn_ok (N := N_AlikeMaker___init__) (ct := ct) F sc_AlikeMaker___init__ (by decide) (fun cdv A outer s H v E hr => ?_)
  have nd := sc_AlikeMaker___init__.nd
  exact ss_cons (ss_expr (se_cfun CF_Maker___init__ GC_Maker G_Maker___init__ (hr.mono (by decide)) (takes_of rfl rfl rfl rfl) rfl B_Maker___init__ (sa_cons (se_var 0) (sa_cons (se_var 1) (sa_nil))) (lenA_cons (lenA_cons (lenA_nil)))))
    (ss_one (ss_setAt AT_times (se_var 0) (se_var 2)))
set_option maxHeartbeats 4000000 in
theorem ok_PickMaker___init__ {a : Addr} {fd : FuncData} (F : L2.Fun K "__init__" "PickMaker.__init__" s_PickMaker___init__ a fd) {a_Maker___init__ : Addr} {f_Maker___init__ : FuncData} (G_Maker___init__ : FnOk P w K mg base (L2.CX P w) 1 a_Maker___init__ f_Maker___init__ P_Maker___init__ (spG K ct 2 S_Maker___init__)) (B_Maker___init__ : Binds K f_Maker___init__ P_Maker___init__ []) (CF_Maker___init__ : CfOk K (ct "Maker") a_Maker___init__ "__init__") (AT_marks : ClAt K ct cl_marks "marks") (GC_Maker : mg "Maker" = some (.ref (ct "Maker"))) :
    FnOk P w K mg base (L2.CX P w) 2 a fd P_PickMaker___init__ (spG K ct 3 S_PickMaker___init__) := by
  refine fn_ok (N := N_PickMaker___init__) (ct := ct) F sc_PickMaker___init__ (by decide) (fun cdv A outer s H v E hr => ?_)
  have nd := sc_PickMaker___init__.nd
  exact ss_cons (ss_expr (se_cfun CF_Maker___init__ GC_Maker G_Maker___init__ (hr.mono (by decide)) (takes_of rfl rfl rfl rfl) rfl B_Maker___init__ (sa_cons (se_var 0) (sa_cons (se_var 1) (sa_nil))) (lenA_cons (lenA_cons (lenA_nil)))))
    (ss_one (ss_setAt AT_marks (se_var 0) (se_var 2)))
set_option maxHeartbeats 4000000 in
theorem ok_RisingMaker___init__ {a : Addr} {fd : FuncData} (F : L2.Fun K "__init__" "RisingMaker.__init__" s_RisingMaker___init__ a fd) {a_Maker___init__ : Addr} {f_Maker___init__ : FuncData} (G_Maker___init__ : FnOk P w K mg base (L2.CX P w) 1 a_Maker___init__ f_Maker___init__ P_Maker___init__ (spG K ct 2 S_Maker___init__)) (B_Maker___init__ : Binds K f_Maker___init__ P_Maker___init__ []) (CF_Maker___init__ : CfOk K (ct "Maker") a_Maker___init__ "__init__") (AT_ways : ClAt K ct cl_ways "ways") (GC_Maker : mg "Maker" = some (.ref (ct "Maker"))) :
    FnOk P w K mg base (L2.CX P w) 2 a fd P_RisingMaker___init__ (spG K ct 2 S_RisingMaker___init__) := by
  refine fn_ok (N := N_RisingMaker___init__) (ct := ct) F sc_RisingMaker___init__ (by decide) (fun cdv A outer s H v E hr => ?_)
  have nd := sc_RisingMaker___init__.nd
  exact ss_cons (ss_expr (se_cfun CF_Maker___init__ GC_Maker G_Maker___init__ (hr.mono (by decide)) (takes_of rfl rfl rfl rfl) rfl B_Maker___init__ (sa_cons (se_var 0) (sa_cons (se_var 1) (sa_nil))) (lenA_cons (lenA_cons (lenA_nil)))))
    (ss_one (ss_setAt AT_ways (se_var 0) (se_dnewT)))
set_option maxHeartbeats 4000000 in
theorem ok_RowMaker___init__ {a : Addr} {fd : FuncData} (F : L2.Fun K "__init__" "RowMaker.__init__" s_RowMaker___init__ a fd) {a_Maker___init__ : Addr} {f_Maker___init__ : FuncData} (G_Maker___init__ : FnOk P w K mg base (L2.CX P w) 1 a_Maker___init__ f_Maker___init__ P_Maker___init__ (spG K ct 2 S_Maker___init__)) (B_Maker___init__ : Binds K f_Maker___init__ P_Maker___init__ []) (CF_Maker___init__ : CfOk K (ct "Maker") a_Maker___init__ "__init__") (AT_rests : ClAt K ct cl_rests "rests") (Z_len : mg "len" = none) (Z_range : mg "range" = none) (GC_Maker : mg "Maker" = some (.ref (ct "Maker"))) :
    FnOk P w K mg base (L2.CX P w) 2 a fd P_RowMaker___init__ (spG K ct 2 S_RowMaker___init__) := by
  refine fn_ok (N := N_RowMaker___init__) (ct := ct) F sc_RowMaker___init__ (by decide) (fun cdv A outer s H v E hr => ?_)
  have nd := sc_RowMaker___init__.nd
  exact ss_cons (ss_expr (se_cfun CF_Maker___init__ GC_Maker G_Maker___init__ (hr.mono (by decide)) (takes_of rfl rfl rfl rfl) rfl B_Maker___init__ (sa_cons (se_var 0) (sa_cons (se_var 1) (sa_nil))) (lenA_cons (lenA_cons (lenA_nil)))))
    (ss_one (ss_setAt AT_rests (se_var 0) (SF.fz (sf_lc [("k", 2)] rfl nd (si_range1 rfl Z_range (sa_cons (se_bin o_add (se_callB (b_len) rfl Z_len (by decide +kernel) (sa_cons (se_var 1) (sa_nil))) (se_int)) (sa_nil))) (blkOk_by (by change blkC N_RowMaker___init__ (defScope s_RowMaker___init__) _ _ = true; decide +kernel)) (by decide) (fun _ _ _ _ _ => sg_name 2 nd) (fun _ _ _ _ _ => sts_nil) (fun _ _ _ _ _ => SF.nw (sf_lst (sa_nil)))))))
set_option maxHeartbeats 4000000 in
theorem ok_TextMaker___init__ {a : Addr} {fd : FuncData} (F : L2.Fun K "__init__" "TextMaker.__init__" s_TextMaker___init__ a fd) {a_Maker___init__ : Addr} {f_Maker___init__ : FuncData} (G_Maker___init__ : FnOk P w K mg base (L2.CX P w) 1 a_Maker___init__ f_Maker___init__ P_Maker___init__ (spG K ct 2 S_Maker___init__)) (B_Maker___init__ : Binds K f_Maker___init__ P_Maker___init__ []) (CF_Maker___init__ : CfOk K (ct "Maker") a_Maker___init__ "__init__") (AT_signs : ClAt K ct cl_signs "signs") (GC_Maker : mg "Maker" = some (.ref (ct "Maker"))) :
    FnOk P w K mg base (L2.CX P w) 2 a fd P_TextMaker___init__ (spG K ct 2 S_TextMaker___init__) := by
  refine fn_ok (N := N_TextMaker___init__) (ct := ct) F sc_TextMaker___init__ (by decide) (fun cdv A outer s H v E hr => ?_)
  have nd := sc_TextMaker___init__.nd
  exact ss_cons (ss_expr (se_cfun CF_Maker___init__ GC_Maker G_Maker___init__ (hr.mono (by decide)) (takes_of rfl rfl rfl rfl) rfl B_Maker___init__ (sa_cons (se_var 0) (sa_cons (SF.fz (sf_lst (sa_nil))) (sa_nil))) (lenA_cons (lenA_cons (lenA_nil)))))
    (ss_one (ss_setAt AT_signs (se_var 0) (se_var 1)))
set_option maxHeartbeats 4000000 in
theorem ok_UseMaker___init__ {a : Addr} {fd : FuncData} (F : L2.Fun K "__init__" "UseMaker.__init__" s_UseMaker___init__ a fd) {a_Maker___init__ : Addr} {f_Maker___init__ : FuncData} (G_Maker___init__ : FnOk P w K mg base (L2.CX P w) 1 a_Maker___init__ f_Maker___init__ P_Maker___init__ (spG K ct 2 S_Maker___init__)) (B_Maker___init__ : Binds K f_Maker___init__ P_Maker___init__ []) (CF_Maker___init__ : CfOk K (ct "Maker") a_Maker___init__ "__init__") (AT_name : ClAt K ct cl_name "name") (AT_named : ClAt K ct cl_named "named") (GC_Maker : mg "Maker" = some (.ref (ct "Maker"))) :
    FnOk P w K mg base (L2.CX P w) 2 a fd P_UseMaker___init__ (spG K ct 3 S_UseMaker___init__) := by
  refine fn_ok (N := N_UseMaker___init__) (ct := ct) F sc_UseMaker___init__ (by decide) (fun cdv A outer s H v E hr => ?_)
  have nd := sc_UseMaker___init__.nd
  exact ss_cons (ss_expr (se_cfun CF_Maker___init__ GC_Maker G_Maker___init__ (hr.mono (by decide)) (takes_of rfl rfl rfl rfl) rfl B_Maker___init__ (sa_cons (se_var 0) (sa_cons (SF.fz (sf_lst (sa_nil))) (sa_nil))) (lenA_cons (lenA_cons (lenA_nil)))))
    (ss_cons (ss_setAt AT_named (se_var 0) (se_var 1))
    (ss_one (ss_setAt AT_name (se_var 0) (se_var 2))))
set_option maxHeartbeats 4000000 in
theorem ok_WholeMaker___init__ {a : Addr} {fd : FuncData} (F : L2.Fun K "__init__" "WholeMaker.__init__" s_WholeMaker___init__ a fd) {a_Maker___init__ : Addr} {f_Maker___init__ : FuncData} (G_Maker___init__ : FnOk P w K mg base (L2.CX P w) 1 a_Maker___init__ f_Maker___init__ P_Maker___init__ (spG K ct 2 S_Maker___init__)) (B_Maker___init__ : Binds K f_Maker___init__ P_Maker___init__ []) (CF_Maker___init__ : CfOk K (ct "Maker") a_Maker___init__ "__init__") (AT_low : ClAt K ct cl_low "low") (AT_span : ClAt K ct cl_span "span") (GC_Maker : mg "Maker" = some (.ref (ct "Maker"))) :
    FnOk P w K mg base (L2.CX P w) 2 a fd P_WholeMaker___init__ (spG K ct 3 S_WholeMaker___init__) := by
  refine fn_ok (N := N_WholeMaker___init__) (ct := ct) F sc_WholeMaker___init__ (by decide) (fun cdv A outer s H v E hr => ?_)
  have nd := sc_WholeMaker___init__.nd
  exact ss_cons (ss_expr (se_cfun CF_Maker___init__ GC_Maker G_Maker___init__ (hr.mono (by decide)) (takes_of rfl rfl rfl rfl) rfl B_Maker___init__ (sa_cons (se_var 0) (sa_cons (SF.fz (sf_lst (sa_nil))) (sa_nil))) (lenA_cons (lenA_cons (lenA_nil)))))
    (ss_cons (ss_setAt AT_low (se_var 0) (se_var 1))
    (ss_one (ss_setAt AT_span (se_var 0) (se_bin o_sub (se_var 2) (se_var 1)))))
set_option maxHeartbeats 4000000 in
theorem ok_maker_of {a : Addr} {fd : FuncData} (F : L2.Fun K "maker_of" "maker_of" s_maker_of a fd) {k : Nat} (hk : 3 ≤ k) {c_maker_of : List D → Sto → R D} {a_maker_of : Addr} {f_maker_of : FuncData} (G_maker_of : FnOk P w K mg base (L2.CX P w) k a_maker_of f_maker_of P_maker_of (spG K ct 2 c_maker_of)) (M_maker_of : mg "maker_of" = some (.ref a_maker_of)) (K_maker_of : PySem.W.keepIn K (.ref a_maker_of) = true) (B_maker_of : Binds K f_maker_of P_maker_of []) {a_AlikeMaker___init__ : Addr} {f_AlikeMaker___init__ : FuncData} (G_AlikeMaker___init__ : FnOk P w K mg base (L2.CX P w) 2 a_AlikeMaker___init__ f_AlikeMaker___init__ P_AlikeMaker___init__ (spG K ct 3 S_AlikeMaker___init__)) (B_AlikeMaker___init__ : Binds K f_AlikeMaker___init__ P_AlikeMaker___init__ []) {a_Maker___init__ : Addr} {f_Maker___init__ : FuncData} (G_Maker___init__ : FnOk P w K mg base (L2.CX P w) 1 a_Maker___init__ f_Maker___init__ P_Maker___init__ (spG K ct 2 S_Maker___init__)) (B_Maker___init__ : Binds K f_Maker___init__ P_Maker___init__ []) {a_PickMaker___init__ : Addr} {f_PickMaker___init__ : FuncData} (G_PickMaker___init__ : FnOk P w K mg base (L2.CX P w) 2 a_PickMaker___init__ f_PickMaker___init__ P_PickMaker___init__ (spG K ct 3 S_PickMaker___init__)) (B_PickMaker___init__ : Binds K f_PickMaker___init__ P_PickMaker___init__ []) {a_RisingMaker___init__ : Addr} {f_RisingMaker___init__ : FuncData} (G_RisingMaker___init__ : FnOk P w K mg base (L2.CX P w) 2 a_RisingMaker___init__ f_RisingMaker___init__ P_RisingMaker___init__ (spG K ct 2 S_RisingMaker___init__)) (B_RisingMaker___init__ : Binds K f_RisingMaker___init__ P_RisingMaker___init__ []) {a_RowMaker___init__ : Addr} {f_RowMaker___init__ : FuncData} (G_RowMaker___init__ : FnOk P w K mg base (L2.CX P w) 2 a_RowMaker___init__ f_RowMaker___init__ P_RowMaker___init__ (spG K ct 2 S_RowMaker___init__)) (B_RowMaker___init__ : Binds K f_RowMaker___init__ P_RowMaker___init__ []) {a_TextMaker___init__ : Addr} {f_TextMaker___init__ : FuncData} (G_TextMaker___init__ : FnOk P w K mg base (L2.CX P w) 2 a_TextMaker___init__ f_TextMaker___init__ P_TextMaker___init__ (spG K ct 2 S_TextMaker___init__)) (B_TextMaker___init__ : Binds K f_TextMaker___init__ P_TextMaker___init__ []) {a_UseMaker___init__ : Addr} {f_UseMaker___init__ : FuncData} (G_UseMaker___init__ : FnOk P w K mg base (L2.CX P w) 2 a_UseMaker___init__ f_UseMaker___init__ P_UseMaker___init__ (spG K ct 3 S_UseMaker___init__)) (B_UseMaker___init__ : Binds K f_UseMaker___init__ P_UseMaker___init__ []) {a_WholeMaker___init__ : Addr} {f_WholeMaker___init__ : FuncData} (G_WholeMaker___init__ : FnOk P w K mg base (L2.CX P w) 2 a_WholeMaker___init__ f_WholeMaker___init__ P_WholeMaker___init__ (spG K ct 3 S_WholeMaker___init__)) (B_WholeMaker___init__ : Binds K f_WholeMaker___init__ P_WholeMaker___init__ []) (MK_AlikeMaker : Mk K (ct "AlikeMaker") a_AlikeMaker___init__) (MK_ManyMaker : Mk K (ct "ManyMaker") a_Maker___init__) (MK_PickMaker : Mk K (ct "PickMaker") a_PickMaker___init__) (MK_RisingMaker : Mk K (ct "RisingMaker") a_RisingMaker___init__) (MK_RowMaker : Mk K (ct "RowMaker") a_RowMaker___init__) (MK_TextMaker : Mk K (ct "TextMaker") a_TextMaker___init__) (MK_UnlikeMaker : Mk K (ct "UnlikeMaker") a_RisingMaker___init__) (MK_UseMaker : Mk K (ct "UseMaker") a_UseMaker___init__) (MK_WholeMaker : Mk K (ct "WholeMaker") a_WholeMaker___init__) (GC_AlikeMaker : mg "AlikeMaker" = some (.ref (ct "AlikeMaker"))) (GC_ManyMaker : mg "ManyMaker" = some (.ref (ct "ManyMaker"))) (GC_PickMaker : mg "PickMaker" = some (.ref (ct "PickMaker"))) (GC_RisingMaker : mg "RisingMaker" = some (.ref (ct "RisingMaker"))) (GC_RowMaker : mg "RowMaker" = some (.ref (ct "RowMaker"))) (GC_TextMaker : mg "TextMaker" = some (.ref (ct "TextMaker"))) (GC_UnlikeMaker : mg "UnlikeMaker" = some (.ref (ct "UnlikeMaker"))) (GC_UseMaker : mg "UseMaker" = some (.ref (ct "UseMaker"))) (GC_WholeMaker : mg "WholeMaker" = some (.ref (ct "WholeMaker"))) :
    FnOk P w K mg base (L2.CX P w) (k + 1) a fd P_maker_of (spG K ct 2 (U_maker_of c_maker_of)) := by
  refine fn_ok (N := N_maker_of) (ct := ct) F sc_maker_of (by decide) (fun cdv A outer s H v E hr => ?_)
  have nd := sc_maker_of.nd
  exact ss_cons (ss_set 2 (se_ix (se_var 0) (se_int)) nd)
    (ss_cons (ss_if (st_cmp (o_eq (hu_big hr)) (se_var 2) (se_str)) (ss_one (ss_ret (se_make (c := "WholeMaker") MK_WholeMaker GC_WholeMaker G_WholeMaker___init__ (hr.mono (Nat.le_trans (by decide) hk)) (takes_of rfl rfl rfl rfl) rfl B_WholeMaker___init__ (sa_cons (se_ix (se_var 0) (se_int)) (sa_cons (se_ix (se_var 0) (se_int)) (sa_nil))) (lenA_cons (lenA_cons (lenA_nil)))))) (ss_nil))
    (ss_cons (ss_if (st_cmp (o_eq (hu_big hr)) (se_var 2) (se_str)) (ss_one (ss_ret (se_make (c := "TextMaker") MK_TextMaker GC_TextMaker G_TextMaker___init__ (hr.mono (Nat.le_trans (by decide) hk)) (takes_of rfl rfl rfl rfl) rfl B_TextMaker___init__ (sa_cons (se_ix (se_var 0) (se_int)) (sa_nil)) (lenA_cons (lenA_nil))))) (ss_nil))
    (ss_cons (ss_if (st_cmp (o_eq (hu_big hr)) (se_var 2) (se_str)) (ss_one (ss_ret (se_make (c := "UseMaker") MK_UseMaker GC_UseMaker G_UseMaker___init__ (hr.mono (Nat.le_trans (by decide) hk)) (takes_of rfl rfl rfl rfl) rfl B_UseMaker___init__ (sa_cons (se_var 1) (sa_cons (se_ix (se_var 0) (se_int)) (sa_nil))) (lenA_cons (lenA_cons (lenA_nil)))))) (ss_nil))
    (ss_cons (ss_if (st_cmp (o_eq (hu_big hr)) (se_var 2) (se_str)) (ss_one (ss_ret (se_make (c := "RowMaker") MK_RowMaker GC_RowMaker G_RowMaker___init__ (hr.mono (Nat.le_trans (by decide) hk)) (takes_of rfl rfl rfl rfl) rfl B_RowMaker___init__ (sa_cons (SF.fz (sf_lc [("part", 4)] rfl nd (si_seq (se_ix (se_var 0) (se_int))) (blkOk_by (by change blkC N_maker_of (defScope s_maker_of) _ _ = true; decide +kernel)) (by decide) (fun _ _ _ _ _ => sg_name 4 nd) (fun _ _ _ _ _ => sts_nil) (fun _ _ _ _ _ => se_call G_maker_of (hr) takes0 rfl M_maker_of K_maker_of B_maker_of (sa_cons (se_var 4) (sa_cons (se_var 1) (sa_nil))) (lenA_cons (lenA_cons (lenA_nil)))))) (sa_nil)) (lenA_cons (lenA_nil))))) (ss_nil))
    (ss_cons (ss_if (st_cmp (o_eq (hu_big hr)) (se_var 2) (se_str)) (ss_cons (ss_setLc 3 (g := eFz) [("branch", 5)] (fun _ _ _ z => lift_fz z) rfl nd rfl rfl (sw_true rfl rfl rfl (by decide +kernel)) (si_seq (se_ix (se_var 0) (se_int))) (blkOk_by (by change blkC N_maker_of (defScope s_maker_of) _ _ = true; decide +kernel)) (by decide) (fun _ _ _ _ _ => sg_name 5 nd) (fun _ _ _ _ _ => sts_nil) (fun _ _ _ _ _ => se_call G_maker_of (hr) takes0 rfl M_maker_of K_maker_of B_maker_of (sa_cons (se_ix (se_var 5) (se_int)) (sa_cons (se_var 1) (sa_nil))) (lenA_cons (lenA_cons (lenA_nil)))))
    (ss_one (ss_ret (se_make (c := "PickMaker") MK_PickMaker GC_PickMaker G_PickMaker___init__ (hr.mono (Nat.le_trans (by decide) hk)) (takes_of rfl rfl rfl rfl) rfl B_PickMaker___init__ (sa_cons (se_var 3) (sa_cons (SF.fz (sf_lc [("branch", 5)] rfl nd (si_seq (se_ix (se_var 0) (se_int))) (blkOk_by (by change blkC N_maker_of (defScope s_maker_of) _ _ = true; decide +kernel)) (by decide) (fun _ _ _ _ _ => sg_name 5 nd) (fun _ _ _ _ _ => sts_nil) (fun _ _ _ _ _ => se_ix (se_var 5) (se_int)))) (sa_nil))) (lenA_cons (lenA_cons (lenA_nil))))))) (ss_nil))
    (ss_cons (ss_set 3 (SF.fz (sf_lst (sa_cons (se_call G_maker_of (hr) (takes_of rfl rfl rfl rfl) rfl M_maker_of K_maker_of B_maker_of (sa_cons (se_ix (se_var 0) (se_int)) (sa_cons (se_var 1) (sa_nil))) (lenA_cons (lenA_cons (lenA_nil)))) (sa_nil)))) nd)
    (ss_cons (ss_if (st_cmp (o_eq (hu_big hr)) (se_var 2) (se_str)) (ss_one (ss_ret (se_make (c := "ManyMaker") MK_ManyMaker GC_ManyMaker G_Maker___init__ (hr.mono (Nat.le_trans (by decide) hk)) (takes_of rfl rfl rfl rfl) rfl B_Maker___init__ (sa_cons (se_var 3) (sa_nil)) (lenA_cons (lenA_nil))))) (ss_nil))
    (ss_cons (ss_if (st_cmp (o_eq (hu_big hr)) (se_var 2) (se_str)) (ss_one (ss_ret (se_make (c := "RisingMaker") MK_RisingMaker GC_RisingMaker G_RisingMaker___init__ (hr.mono (Nat.le_trans (by decide) hk)) (takes_of rfl rfl rfl rfl) rfl B_RisingMaker___init__ (sa_cons (se_var 3) (sa_nil)) (lenA_cons (lenA_nil))))) (ss_nil))
    (ss_cons (ss_if (st_cmp (o_eq (hu_big hr)) (se_var 2) (se_str)) (ss_one (ss_ret (se_make (c := "UnlikeMaker") MK_UnlikeMaker GC_UnlikeMaker G_RisingMaker___init__ (hr.mono (Nat.le_trans (by decide) hk)) (takes_of rfl rfl rfl rfl) rfl B_RisingMaker___init__ (sa_cons (se_var 3) (sa_nil)) (lenA_cons (lenA_nil))))) (ss_nil))
    (ss_one (ss_ret (se_make (c := "AlikeMaker") MK_AlikeMaker GC_AlikeMaker G_AlikeMaker___init__ (hr.mono (Nat.le_trans (by decide) hk)) (takes_of rfl rfl rfl rfl) rfl B_AlikeMaker___init__ (sa_cons (se_var 3) (sa_cons (se_ix (se_var 0) (se_int)) (sa_nil))) (lenA_cons (lenA_cons (lenA_nil)))))))))))))))
set_option maxHeartbeats 4000000 in
theorem ok_Tables___init__ {a : Addr} {fd : FuncData} (F : L2.Fun K "__init__" "Tables.__init__" s_Tables___init__ a fd) {a_maker_of : Addr} {f_maker_of : FuncData} (G_maker_of : FnOk P w K mg base (L2.CX P w) 23 a_maker_of f_maker_of P_maker_of (spG K ct 2 (S_maker_of 20))) (M_maker_of : mg "maker_of" = some (.ref a_maker_of)) (K_maker_of : PySem.W.keepIn K (.ref a_maker_of) = true) (B_maker_of : Binds K f_maker_of P_maker_of []) (AT_named : ClAt K ct cl_named "named") (AT_top : ClAt K ct cl_top "top") :
    FnOk P w K mg base (L2.CX P w) 24 a fd P_Tables___init__ (spG K ct 3 S_Tables___init__) := by
  refine fn_ok (N := N_Tables___init__) (ct := ct) F sc_Tables___init__ (by decide) (fun cdv A outer s H v E hr => ?_)
  have nd := sc_Tables___init__.nd
  exact ss_cons (ss_setAt AT_named (se_var 0) (se_dnewK))
    (ss_cons (ss_for (passes_of rfl) rfl (si_seq (se_var 1)) (sg_tup rfl (sgs_cons (sg_name 3 nd) (sgs_cons (sg_name 4 nd) (sgs_nil)))) (ss_one (ss_dputK (Nat.lt_trans (Nat.add_lt_add_left (by decide) _) (hu_big hr)) (se_at AT_named (se_var 0)) (se_var 3) (se_call G_maker_of (hr.mono (by decide)) (takes_of rfl rfl rfl rfl) rfl M_maker_of K_maker_of B_maker_of (sa_cons (se_var 4) (sa_cons (se_at AT_named (se_var 0)) (sa_nil))) (lenA_cons (lenA_cons (lenA_nil)))))))
    (ss_one (ss_setAt AT_top (se_var 0) (se_call G_maker_of (hr.mono (by decide)) (takes_of rfl rfl rfl rfl) rfl M_maker_of K_maker_of B_maker_of (sa_cons (se_var 2) (sa_cons (se_at AT_named (se_var 0)) (sa_nil))) (lenA_cons (lenA_cons (lenA_nil)))))))
set_option maxHeartbeats 4000000 in
theorem ok_Tables_counts_at {a : Addr} {fd : FuncData} (F : L2.Fun K "counts_at" "Tables.counts_at" s_Tables_counts_at a fd) (AT_counts : ClAt K ct cl_counts "counts") (AT_top : ClAt K ct cl_top "top") :
    FnOk P w K mg base (L2.CX P w) 1 a fd P_Tables_counts_at (spG K ct 2 S_Tables_counts_at) := by
  refine fn_ok (N := N_Tables_counts_at) (ct := ct) F sc_Tables_counts_at (by decide) (fun cdv A outer s H v E hr => ?_)
  have nd := sc_Tables_counts_at.nd
  exact ss_one (ss_ret (se_ix (se_at AT_counts (se_at AT_top (se_var 0))) (se_var 1)))
set_option maxHeartbeats 4000000 in
theorem ok_AlikeMaker_next_count {a : Addr} {fd : FuncData} (F : L2.Fun K "next_count" "AlikeMaker.next_count" s_AlikeMaker_next_count a fd) (AT_counts : ClAt K ct cl_counts "counts") (AT_times : ClAt K ct cl_times "times") (AT_within : ClAt K ct cl_within "within") :
    FnOk P w K mg base (L2.CX P w) 1 a fd P_AlikeMaker_next_count (spG K ct 2 S_AlikeMaker_next_count) := by
  refine fn_ok (N := N_AlikeMaker_next_count) (ct := ct) F sc_AlikeMaker_next_count (by decide) (fun cdv A outer s H v E hr => ?_)
  have nd := sc_AlikeMaker_next_count.nd
  exact ss_cons (ss_if (PW.pt (sw_or (st_cmp o_lt (se_var 1) (se_at AT_times (se_var 0))) (sw_or1 (st_cmp (o_ne (hu_big hr)) (se_bin o_mod (se_var 1) (se_at AT_times (se_var 0))) (se_int))))) (ss_one (ss_ret (se_int))) (ss_nil))
    (ss_one (ss_ret (se_ix (se_at AT_counts (se_ix (se_at AT_within (se_var 0)) (se_int))) (se_bin o_sub (se_bin o_div (se_var 1) (se_at AT_times (se_var 0))) (se_int)))))
set_option maxHeartbeats 4000000 in
theorem ok_ManyMaker_next_count {a : Addr} {fd : FuncData} (F : L2.Fun K "next_count" "ManyMaker.next_count" s_ManyMaker_next_count a fd) (AT_counts : ClAt K ct cl_counts "counts") (AT_within : ClAt K ct cl_within "within") (Z_range : mg "range" = none) (Z_sum : mg "sum" = none) :
    FnOk P w K mg base (L2.CX P w) 1 a fd P_ManyMaker_next_count (spG K ct 2 S_ManyMaker_next_count) := by
  refine fn_ok (N := N_ManyMaker_next_count) (ct := ct) F sc_ManyMaker_next_count (by decide) (fun cdv A outer s H v E hr => ?_)
  have nd := sc_ManyMaker_next_count.nd
  exact ss_cons (ss_if (st_cmp (o_eq (hu_big hr)) (se_var 1) (se_int)) (ss_one (ss_ret (se_int))) (ss_nil))
    (ss_cons (ss_set 2 (se_at AT_counts (se_ix (se_at AT_within (se_var 0)) (se_int))) nd)
    (ss_one (ss_ret (se_callB (b_sumA rfl) rfl Z_sum (by decide +kernel) (sa_cons (SF.fz (sf_lc [("first", 3)] rfl nd (si_range1 rfl Z_range (sa_cons (se_var 1) (sa_nil))) (blkOk_by (by change blkC N_ManyMaker_next_count (defScope s_ManyMaker_next_count) _ _ = true; decide +kernel)) (by decide) (fun _ _ _ _ _ => sg_name 3 nd) (fun _ _ _ _ _ => sts_nil) (fun _ _ _ _ _ => se_bin o_mul (se_ix (se_var 2) (se_var 3)) (se_ix (se_at AT_counts (se_var 0)) (se_bin o_sub (se_bin o_sub (se_var 1) (se_int)) (se_var 3)))))) (sa_nil))))))
set_option maxHeartbeats 4000000 in
theorem ok_PickMaker_next_count {a : Addr} {fd : FuncData} (F : L2.Fun K "next_count" "PickMaker.next_count" s_PickMaker_next_count a fd) (AT_counts : ClAt K ct cl_counts "counts") (AT_within : ClAt K ct cl_within "within") (Z_sum : mg "sum" = none) :
    FnOk P w K mg base (L2.CX P w) 1 a fd P_PickMaker_next_count (spG K ct 2 S_PickMaker_next_count) := by
  refine fn_ok (N := N_PickMaker_next_count) (ct := ct) F sc_PickMaker_next_count (by decide) (fun cdv A outer s H v E hr => ?_)
  have nd := sc_PickMaker_next_count.nd
  exact ss_one (ss_ret (se_callB (b_sumA rfl) rfl Z_sum (by decide +kernel) (sa_cons (SF.fz (sf_lc [("maker", 2)] rfl nd (si_seq (se_at AT_within (se_var 0))) (blkOk_by (by change blkC N_PickMaker_next_count (defScope s_PickMaker_next_count) _ _ = true; decide +kernel)) (by decide) (fun _ _ _ _ _ => sg_name 2 nd) (fun _ _ _ _ _ => sts_nil) (fun _ _ _ _ _ => se_ix (se_at AT_counts (se_var 2)) (se_var 1)))) (sa_nil))))
set_option maxHeartbeats 4000000 in
theorem ok_RisingMaker_beyond {a : Addr} {fd : FuncData} (F : L2.Fun K "beyond" "RisingMaker.beyond" s_RisingMaker_beyond a fd) (AT_ways : ClAt K ct cl_ways "ways") :
    FnOk P w K mg base (L2.CX P w) 1 a fd P_RisingMaker_beyond (spG K ct 3 S_RisingMaker_beyond) := by
  refine fn_ok (N := N_RisingMaker_beyond) (ct := ct) F sc_RisingMaker_beyond (by decide) (fun cdv A outer s H v E hr => ?_)
  have nd := sc_RisingMaker_beyond.nd
  exact ss_cons (ss_if (st_cmp (o_eq (hu_big hr)) (se_var 2) (se_int)) (ss_one (ss_ret (se_int))) (ss_nil))
    (ss_one (ss_ret (se_dgetT (Nat.lt_trans (Nat.add_lt_add_left (by decide) _) (hu_big hr)) (se_at AT_ways (se_var 0)) (sa_cons (se_var 1) (sa_cons (se_var 2) (sa_nil))) (se_int))))
set_option maxHeartbeats 4000000 in
theorem ok_sets_among {a : Addr} {fd : FuncData} (F : L2.Fun K "sets_among" "sets_among" s_sets_among a fd) (Z_min : mg "min" = none) (Z_range : mg "range" = none) :
    FnOk P w K mg base (L2.CX P w) 1 a fd P_sets_among (spG K ct 2 S_sets_among) := by
  refine fn_ok (N := N_sets_among) (ct := ct) F sc_sets_among (by decide) (fun cdv A outer s H v E hr => ?_)
  have nd := sc_sets_among.nd
  exact ss_cons (ss_if (st_cmp o_gt (se_var 1) (se_var 0)) (ss_one (ss_ret (se_int))) (ss_nil))
    (ss_cons (ss_set 2 (se_int) nd)
    (ss_cons (ss_for (passes_of rfl) rfl (si_range1 rfl Z_range (sa_cons (se_callB (b_min2 rfl) rfl Z_min (by decide +kernel) (sa_cons (se_var 1) (sa_cons (se_bin o_sub (se_var 0) (se_var 1)) (sa_nil)))) (sa_nil))) (sg_name 3 nd) (ss_one (ss_set 2 (se_bin o_div (se_bin o_mul (se_var 2) (se_bin o_sub (se_var 0) (se_var 3))) (se_bin o_add (se_var 3) (se_int))) nd)))
    (ss_one (ss_ret (se_var 2)))))
set_option maxHeartbeats 4000000 in
theorem ok_bags_among {a : Addr} {fd : FuncData} (F : L2.Fun K "bags_among" "bags_among" s_bags_among a fd) {a_sets_among : Addr} {f_sets_among : FuncData} (G_sets_among : FnOk P w K mg base (L2.CX P w) 1 a_sets_among f_sets_among P_sets_among (spG K ct 2 S_sets_among)) (M_sets_among : mg "sets_among" = some (.ref a_sets_among)) (K_sets_among : PySem.W.keepIn K (.ref a_sets_among) = true) (B_sets_among : Binds K f_sets_among P_sets_among []) :
    FnOk P w K mg base (L2.CX P w) 2 a fd P_bags_among (spG K ct 2 S_bags_among) := by
  refine fn_ok (N := N_bags_among) (ct := ct) F sc_bags_among (by decide) (fun cdv A outer s H v E hr => ?_)
  have nd := sc_bags_among.nd
  exact ss_cons (ss_if (st_cmp (o_eq (hu_big hr)) (se_var 1) (se_int)) (ss_one (ss_ret (se_int))) (ss_nil))
    (ss_cons (ss_if (st_cmp (o_eq (hu_big hr)) (se_var 0) (se_int)) (ss_one (ss_ret (se_int))) (ss_nil))
    (ss_one (ss_ret (se_call G_sets_among (hr.mono (by decide)) (takes_of rfl rfl rfl rfl) rfl M_sets_among K_sets_among B_sets_among (sa_cons (se_bin o_sub (se_bin o_add (se_var 0) (se_var 1)) (se_int)) (sa_cons (se_var 1) (sa_nil))) (lenA_cons (lenA_cons (lenA_nil)))))))
set_option maxHeartbeats 4000000 in
theorem ok_RisingMaker_among {a : Addr} {fd : FuncData} (F : L2.Fun K "among" "RisingMaker.among" s_RisingMaker_among a fd) {a_bags_among : Addr} {f_bags_among : FuncData} (G_bags_among : FnOk P w K mg base (L2.CX P w) 2 a_bags_among f_bags_among P_bags_among (spG K ct 2 S_bags_among)) (M_bags_among : mg "bags_among" = some (.ref a_bags_among)) (K_bags_among : PySem.W.keepIn K (.ref a_bags_among) = true) (B_bags_among : Binds K f_bags_among P_bags_among []) :
    FnOk P w K mg base (L2.CX P w) 3 a fd P_RisingMaker_among (spG K ct 3 S_RisingMaker_among) := by
  refine fn_ok (N := N_RisingMaker_among) (ct := ct) F sc_RisingMaker_among (by decide) (fun cdv A outer s H v E hr => ?_)
  have nd := sc_RisingMaker_among.nd
  exact ss_one (ss_ret (se_call G_bags_among (hr.mono (by decide)) (takes_of rfl rfl rfl rfl) rfl M_bags_among K_bags_among B_bags_among (sa_cons (se_var 1) (sa_cons (se_var 2) (sa_nil))) (lenA_cons (lenA_cons (lenA_nil)))))
set_option maxHeartbeats 4000000 in
theorem ok_UnlikeMaker_among {a : Addr} {fd : FuncData} (F : L2.Fun K "among" "UnlikeMaker.among" s_UnlikeMaker_among a fd) {a_sets_among : Addr} {f_sets_among : FuncData} (G_sets_among : FnOk P w K mg base (L2.CX P w) 1 a_sets_among f_sets_among P_sets_among (spG K ct 2 S_sets_among)) (M_sets_among : mg "sets_among" = some (.ref a_sets_among)) (K_sets_among : PySem.W.keepIn K (.ref a_sets_among) = true) (B_sets_among : Binds K f_sets_among P_sets_among []) :
    FnOk P w K mg base (L2.CX P w) 2 a fd P_UnlikeMaker_among (spG K ct 3 S_UnlikeMaker_among) := by
  refine fn_ok (N := N_UnlikeMaker_among) (ct := ct) F sc_UnlikeMaker_among (by decide) (fun cdv A outer s H v E hr => ?_)
  have nd := sc_UnlikeMaker_among.nd
  exact ss_one (ss_ret (se_call G_sets_among (hr.mono (by decide)) (takes_of rfl rfl rfl rfl) rfl M_sets_among K_sets_among B_sets_among (sa_cons (se_var 1) (sa_cons (se_var 2) (sa_nil))) (lenA_cons (lenA_cons (lenA_nil)))))
set_option maxHeartbeats 4000000 in
theorem ok_RisingMaker_block {a : Addr} {fd : FuncData} (F : L2.Fun K "block" "RisingMaker.block" s_RisingMaker_block a fd) (VM_among : MtsOk P w K mg base ct 3 3 "among" (mt_among S_RisingMaker_among S_UnlikeMaker_among)) (VM_beyond : MtsOk P w K mg base ct 1 3 "beyond" (mt_beyond S_RisingMaker_beyond)) (AT_counts : ClAt K ct cl_counts "counts") (AT_within : ClAt K ct cl_within "within") :
    FnOk P w K mg base (L2.CX P w) 4 a fd P_RisingMaker_block (spG K ct 4 S_RisingMaker_block) := by
  refine fn_ok (N := N_RisingMaker_block) (ct := ct) F sc_RisingMaker_block (by decide) (fun cdv A outer s H v E hr => ?_)
  have nd := sc_RisingMaker_block.nd
  exact ss_cons (ss_set 4 (se_meth VM_among (hr.mono (by decide)) (takes_of rfl rfl rfl rfl) (se_var 0) (sa_cons (se_ix (se_at AT_counts (se_ix (se_at AT_within (se_var 0)) (se_int))) (se_var 1)) (sa_cons (se_var 3) (sa_nil))) (lenA_cons (lenA_cons (lenA_nil)))) nd)
    (ss_one (ss_ret (se_bin o_mul (se_var 4) (se_meth VM_beyond (hr.mono (by decide)) (takes_of rfl rfl rfl rfl) (se_var 0) (sa_cons (se_bin o_add (se_var 1) (se_int)) (sa_cons (se_bin o_sub (se_var 2) (se_bin o_mul (se_var 3) (se_bin o_add (se_var 1) (se_int)))) (sa_nil))) (lenA_cons (lenA_cons (lenA_nil)))))))
set_option maxHeartbeats 4000000 in
theorem ok_RisingMaker_next_count {a : Addr} {fd : FuncData} (F : L2.Fun K "next_count" "RisingMaker.next_count" s_RisingMaker_next_count a fd) (VM_beyond : MtsOk P w K mg base ct 1 3 "beyond" (mt_beyond S_RisingMaker_beyond)) (VM_block : MtsOk P w K mg base ct 4 4 "block" (mt_block S_RisingMaker_block)) (AT_ways : ClAt K ct cl_ways "ways") (Z_range : mg "range" = none) (Z_sum : mg "sum" = none) :
    FnOk P w K mg base (L2.CX P w) 5 a fd P_RisingMaker_next_count (spG K ct 2 S_RisingMaker_next_count) := by
  refine fn_ok (N := N_RisingMaker_next_count) (ct := ct) F sc_RisingMaker_next_count (by decide) (fun cdv A outer s H v E hr => ?_)
  have nd := sc_RisingMaker_next_count.nd
  exact ss_cons (ss_for (passes_of rfl) rfl (si_range3 rfl Z_range (sa_cons (se_bin o_sub (se_var 1) (se_int)) (sa_cons (se_un o_neg (se_int)) (sa_cons (se_un o_neg (se_int)) (sa_nil))))) (sg_name 2 nd) (ss_cons (ss_set 3 (se_bin o_div (se_var 1) (se_bin o_add (se_var 2) (se_int))) nd)
    (ss_one (ss_dputT (Nat.lt_trans (Nat.add_lt_add_left (by decide) _) (hu_big hr)) (se_at AT_ways (se_var 0)) (sa_cons (se_var 2) (sa_cons (se_var 1) (sa_nil))) (se_callB (b_sumA rfl) rfl Z_sum (by decide +kernel) (sa_cons (SF.fz (sf_lc [("chosen", 4)] rfl nd (si_range1 rfl Z_range (sa_cons (se_bin o_add (se_var 3) (se_int)) (sa_nil))) (blkOk_by (by change blkC N_RisingMaker_next_count (defScope s_RisingMaker_next_count) _ _ = true; decide +kernel)) (by decide) (fun _ _ _ _ _ => sg_name 4 nd) (fun _ _ _ _ _ => sts_nil) (fun _ _ _ _ _ => se_meth VM_block (hr.mono (by decide)) takes0 (se_var 0) (sa_cons (se_var 2) (sa_cons (se_var 1) (sa_cons (se_var 4) (sa_nil)))) (lenA_cons (lenA_cons (lenA_cons (lenA_nil))))))) (sa_nil)))))))
    (ss_one (ss_ret (se_meth VM_beyond (hr.mono (by decide)) (takes_of rfl rfl rfl rfl) (se_var 0) (sa_cons (se_int) (sa_cons (se_var 1) (sa_nil))) (lenA_cons (lenA_cons (lenA_nil))))))
set_option maxHeartbeats 4000000 in
theorem ok_RowMaker_next_count {a : Addr} {fd : FuncData} (F : L2.Fun K "next_count" "RowMaker.next_count" s_RowMaker_next_count a fd) (AT_counts : ClAt K ct cl_counts "counts") (AT_rests : ClAt K ct cl_rests "rests") (AT_within : ClAt K ct cl_within "within") (Z_int : mg "int" = none) (Z_len : mg "len" = none) (Z_range : mg "range" = none) (Z_sum : mg "sum" = none) :
    FnOk P w K mg base (L2.CX P w) 1 a fd P_RowMaker_next_count (spG K ct 2 S_RowMaker_next_count) := by
  refine fn_ok (N := N_RowMaker_next_count) (ct := ct) F sc_RowMaker_next_count (by decide) (fun cdv A outer s H v E hr => ?_)
  have nd := sc_RowMaker_next_count.nd
  exact ss_cons (ss_set 2 (se_callB (b_len) rfl Z_len (by decide +kernel) (sa_cons (se_at AT_within (se_var 0)) (sa_nil))) nd)
    (ss_cons (ss_expr (se_app (se_ix (se_at AT_rests (se_var 0)) (se_var 2)) (se_callT (b_int) rfl Z_int (by decide +kernel) (sa_cons (se_cmp (o_eq (hu_big hr)) (se_var 1) (se_int)) (sa_nil)))))
    (ss_cons (ss_for (passes_of rfl) rfl (si_range3 rfl Z_range (sa_cons (se_bin o_sub (se_var 2) (se_int)) (sa_cons (se_un o_neg (se_int)) (sa_cons (se_un o_neg (se_int)) (sa_nil))))) (sg_name 3 nd) (ss_cons (ss_set 4 (se_at AT_counts (se_ix (se_at AT_within (se_var 0)) (se_var 3))) nd)
    (ss_cons (ss_set 5 (se_ix (se_at AT_rests (se_var 0)) (se_bin o_add (se_var 3) (se_int))) nd)
    (ss_one (ss_expr (se_app (se_ix (se_at AT_rests (se_var 0)) (se_var 3)) (se_callB (b_sumA rfl) rfl Z_sum (by decide +kernel) (sa_cons (SF.fz (sf_lc [("first", 6)] rfl nd (si_range1 rfl Z_range (sa_cons (se_bin o_add (se_var 1) (se_int)) (sa_nil))) (blkOk_by (by change blkC N_RowMaker_next_count (defScope s_RowMaker_next_count) _ _ = true; decide +kernel)) (by decide) (fun _ _ _ _ _ => sg_name 6 nd) (fun _ _ _ _ _ => sts_nil) (fun _ _ _ _ _ => se_bin o_mul (se_ix (se_var 4) (se_var 6)) (se_ix (se_var 5) (se_bin o_sub (se_var 1) (se_var 6)))))) (sa_nil)))))))))
    (ss_one (ss_ret (se_ix (se_ix (se_at AT_rests (se_var 0)) (se_int)) (se_var 1))))))
set_option maxHeartbeats 4000000 in
theorem ok_TextMaker_next_count {a : Addr} {fd : FuncData} (F : L2.Fun K "next_count" "TextMaker.next_count" s_TextMaker_next_count a fd) (AT_counts : ClAt K ct cl_counts "counts") (AT_signs : ClAt K ct cl_signs "signs") (Z_len : mg "len" = none) :
    FnOk P w K mg base (L2.CX P w) 1 a fd P_TextMaker_next_count (spG K ct 2 S_TextMaker_next_count) := by
  refine fn_ok (N := N_TextMaker_next_count) (ct := ct) F sc_TextMaker_next_count (by decide) (fun cdv A outer s H v E hr => ?_)
  have nd := sc_TextMaker_next_count.nd
  exact ss_cons (ss_if (st_cmp (o_eq (hu_big hr)) (se_var 1) (se_int)) (ss_one (ss_ret (se_int))) (ss_nil))
    (ss_one (ss_ret (se_bin o_mul (se_ix (se_at AT_counts (se_var 0)) (se_bin o_sub (se_var 1) (se_int))) (se_callB (b_len) rfl Z_len (by decide +kernel) (sa_cons (se_at AT_signs (se_var 0)) (sa_nil))))))
set_option maxHeartbeats 4000000 in
theorem ok_UseMaker_next_count {a : Addr} {fd : FuncData} (F : L2.Fun K "next_count" "UseMaker.next_count" s_UseMaker_next_count a fd) (AT_counts : ClAt K ct cl_counts "counts") (AT_name : ClAt K ct cl_name "name") (AT_named : ClAt K ct cl_named "named") :
    FnOk P w K mg base (L2.CX P w) 1 a fd P_UseMaker_next_count (spG K ct 2 S_UseMaker_next_count) := by
  refine fn_ok (N := N_UseMaker_next_count) (ct := ct) F sc_UseMaker_next_count (by decide) (fun cdv A outer s H v E hr => ?_)
  have nd := sc_UseMaker_next_count.nd
  exact ss_cons (ss_if (st_cmp (o_eq (hu_big hr)) (se_var 1) (se_int)) (ss_one (ss_ret (se_int))) (ss_nil))
    (ss_one (ss_ret (se_ix (se_at AT_counts (se_dix (Nat.lt_trans (Nat.add_lt_add_left (by decide) _) (hu_big hr)) (se_at AT_named (se_var 0)) (se_at AT_name (se_var 0)))) (se_bin o_sub (se_var 1) (se_int)))))
set_option maxHeartbeats 4000000 in
theorem ok_WholeMaker_next_count {a : Addr} {fd : FuncData} (F : L2.Fun K "next_count" "WholeMaker.next_count" s_WholeMaker_next_count a fd) (AT_span : ClAt K ct cl_span "span") (Z_max : mg "max" = none) (Z_min : mg "min" = none) :
    FnOk P w K mg base (L2.CX P w) 1 a fd P_WholeMaker_next_count (spG K ct 2 S_WholeMaker_next_count) := by
  refine fn_ok (N := N_WholeMaker_next_count) (ct := ct) F sc_WholeMaker_next_count (by decide) (fun cdv A outer s H v E hr => ?_)
  have nd := sc_WholeMaker_next_count.nd
  exact ss_cons (ss_if (st_cmp (o_eq (hu_big hr)) (se_var 1) (se_int)) (ss_one (ss_ret (se_int))) (ss_nil))
    (ss_cons (ss_set 2 (se_bin o_shl (se_int) (se_bin o_sub (se_var 1) (se_int))) nd)
    (ss_one (ss_ret (se_callB (b_max2 rfl) rfl Z_max (by decide +kernel) (sa_cons (se_int) (sa_cons (se_bin o_add (se_bin o_sub (se_callB (b_min2 rfl) rfl Z_min (by decide +kernel) (sa_cons (se_at AT_span (se_var 0)) (sa_cons (se_bin o_sub (se_bin o_mul (se_int) (se_var 2)) (se_int)) (sa_nil)))) (se_var 2)) (se_int)) (sa_nil)))))))
set_option maxHeartbeats 4000000 in
theorem ok_Maker_grow {a : Addr} {fd : FuncData} (F : L2.Fun K "grow" "Maker.grow" s_Maker_grow a fd) {k : Nat} (hk : 5 ≤ k) {c_Maker_grow : List D → Sto → R D} (VM_grow : MtsOk P w K mg base ct k 1 "grow" (mt_grow c_Maker_grow)) (VM_next_count : MtsOk P w K mg base ct 5 2 "next_count" (mt_next_count S_WholeMaker_next_count S_TextMaker_next_count S_RowMaker_next_count S_ManyMaker_next_count S_RisingMaker_next_count S_AlikeMaker_next_count S_PickMaker_next_count S_UseMaker_next_count)) (AT_counts : ClAt K ct cl_counts "counts") (AT_within : ClAt K ct cl_within "within") (Z_len : mg "len" = none) :
    FnOk P w K mg base (L2.CX P w) (k + 1) a fd P_Maker_grow (spG K ct 1 (U_Maker_grow c_Maker_grow)) := by
  refine fn_ok (N := N_Maker_grow) (ct := ct) F sc_Maker_grow (by decide) (fun cdv A outer s H v E hr => ?_)
  have nd := sc_Maker_grow.nd
  exact ss_cons (ss_for (passes_of rfl) rfl (si_seq (se_at AT_within (se_var 0))) (sg_name 1 nd) (ss_one (ss_expr (se_meth0 VM_grow hr (takes_of rfl rfl rfl rfl) (se_var 1)))))
    (ss_one (ss_expr (se_app (se_at AT_counts (se_var 0)) (se_meth VM_next_count (hr.mono (Nat.le_trans (by decide) hk)) (takes_of rfl rfl rfl rfl) (se_var 0) (sa_cons (se_callB (b_len) rfl Z_len (by decide +kernel) (sa_cons (se_at AT_counts (se_var 0)) (sa_nil))) (sa_nil)) (lenA_cons (lenA_nil))))))
set_option maxHeartbeats 4000000 in
theorem ok_Tables_grow_to {a : Addr} {fd : FuncData} (F : L2.Fun K "grow_to" "Tables.grow_to" s_Tables_grow_to a fd) (VM_grow : MtsOk P w K mg base ct 25 1 "grow" (mt_grow (S_Maker_grow 20))) (AT_counts : ClAt K ct cl_counts "counts") (AT_named : ClAt K ct cl_named "named") (AT_top : ClAt K ct cl_top "top") (Z_len : mg "len" = none) :
    FnOk P w K mg base (L2.CX P w) 26 a fd P_Tables_grow_to (spG K ct 2 S_Tables_grow_to) := by
  refine fn_ok (N := N_Tables_grow_to) (ct := ct) F sc_Tables_grow_to (by decide) (fun cdv A outer s H v E hr => ?_)
  have nd := sc_Tables_grow_to.nd
  exact ss_one (ss_while fuel (passes_of rfl) (st_cmp o_le (se_callB (b_len) rfl Z_len (by decide +kernel) (sa_cons (se_at AT_counts (se_at AT_top (se_var 0))) (sa_nil))) (se_var 1)) (ss_cons (ss_for (passes_of rfl) rfl (si_dvals (se_at AT_named (se_var 0))) (sg_name 2 nd) (ss_one (ss_expr (se_meth0 VM_grow (hr.mono (by decide)) (takes_of rfl rfl rfl rfl) (se_var 2)))))
    (ss_one (ss_expr (se_meth0 VM_grow (hr.mono (by decide)) (takes_of rfl rfl rfl rfl) (se_at AT_top (se_var 0)))))))
set_option maxHeartbeats 4000000 in
theorem ok_greatest_below {a : Addr} {fd : FuncData} (F : L2.Fun K "greatest_below" "greatest_below" s_greatest_below a fd) {a_sets_among : Addr} {f_sets_among : FuncData} (G_sets_among : FnOk P w K mg base (L2.CX P w) 1 a_sets_among f_sets_among P_sets_among (spG K ct 2 S_sets_among)) (M_sets_among : mg "sets_among" = some (.ref a_sets_among)) (K_sets_among : PySem.W.keepIn K (.ref a_sets_among) = true) (B_sets_among : Binds K f_sets_among P_sets_among []) :
    FnOk P w K mg base (L2.CX P w) 2 a fd P_greatest_below (spG K ct 2 S_greatest_below) := by
  refine fn_ok (N := N_greatest_below) (ct := ct) F sc_greatest_below (by decide) (fun cdv A outer s H v E hr => ?_)
  have nd := sc_greatest_below.nd
  exact ss_cons (ss_set 2 (se_bin o_sub (se_var 0) (se_int)) nd)
    (ss_cons (ss_set 3 (se_var 0) nd)
    (ss_cons (ss_while fuel (passes_of rfl) (st_cmp o_le (se_call G_sets_among (hr.mono (by decide)) (takes_of rfl rfl rfl rfl) rfl M_sets_among K_sets_among B_sets_among (sa_cons (se_var 3) (sa_cons (se_var 0) (sa_nil))) (lenA_cons (lenA_cons (lenA_nil)))) (se_var 1)) (ss_cons (ss_set 2 (se_var 3) nd)
    (ss_one (ss_set 3 (se_bin o_mul (se_int) (se_var 3)) nd))))
    (ss_cons (ss_while fuel (passes_of rfl) (st_cmp o_gt (se_bin o_sub (se_var 3) (se_var 2)) (se_int)) (ss_cons (ss_set 4 (se_bin o_div (se_bin o_add (se_var 2) (se_var 3)) (se_int)) nd)
    (ss_one (ss_if (st_cmp o_le (se_call G_sets_among (hr.mono (by decide)) (takes_of rfl rfl rfl rfl) rfl M_sets_among K_sets_among B_sets_among (sa_cons (se_var 4) (sa_cons (se_var 0) (sa_nil))) (lenA_cons (lenA_cons (lenA_nil)))) (se_var 1)) (ss_one (ss_set 2 (se_var 4) nd)) (ss_one (ss_set 3 (se_var 4) nd))))))
    (ss_one (ss_ret (se_var 2))))))
set_option maxHeartbeats 4000000 in
theorem ok_set_at {a : Addr} {fd : FuncData} (F : L2.Fun K "set_at" "set_at" s_set_at a fd) {a_greatest_below : Addr} {f_greatest_below : FuncData} (G_greatest_below : FnOk P w K mg base (L2.CX P w) 2 a_greatest_below f_greatest_below P_greatest_below (spG K ct 2 S_greatest_below)) (M_greatest_below : mg "greatest_below" = some (.ref a_greatest_below)) (K_greatest_below : PySem.W.keepIn K (.ref a_greatest_below) = true) (B_greatest_below : Binds K f_greatest_below P_greatest_below []) {a_sets_among : Addr} {f_sets_among : FuncData} (G_sets_among : FnOk P w K mg base (L2.CX P w) 1 a_sets_among f_sets_among P_sets_among (spG K ct 2 S_sets_among)) (M_sets_among : mg "sets_among" = some (.ref a_sets_among)) (K_sets_among : PySem.W.keepIn K (.ref a_sets_among) = true) (B_sets_among : Binds K f_sets_among P_sets_among []) (Z_range : mg "range" = none) (Z_reversed : mg "reversed" = none) :
    FnOk P w K mg base (L2.CX P w) 3 a fd P_set_at (spG K ct 2 S_set_at) := by
  refine fn_ok (N := N_set_at) (ct := ct) F sc_set_at (by decide) (fun cdv A outer s H v E hr => ?_)
  have nd := sc_set_at.nd
  exact ss_cons (ss_set 2 (SF.nw (sf_lst (sa_nil))) nd)
    (ss_cons (ss_for (passes_of rfl) rfl (si_revR2 rfl Z_reversed rfl Z_range (se_int) (se_bin o_add (se_var 0) (se_int))) (sg_name 3 nd) (ss_cons (ss_set 4 (se_call G_greatest_below (hr.mono (by decide)) (takes_of rfl rfl rfl rfl) rfl M_greatest_below K_greatest_below B_greatest_below (sa_cons (se_var 3) (sa_cons (se_var 1) (sa_nil))) (lenA_cons (lenA_cons (lenA_nil)))) nd)
    (ss_cons (ss_aug 1 io_sub (se_call G_sets_among (hr.mono (by decide)) (takes_of rfl rfl rfl rfl) rfl M_sets_among K_sets_among B_sets_among (sa_cons (se_var 4) (sa_cons (se_var 3) (sa_nil))) (lenA_cons (lenA_cons (lenA_nil)))) nd)
    (ss_one (ss_expr (se_app (se_var 2) (se_var 4)))))))
    (ss_one (ss_frz 2 (ss_ret (se_revA (se_var 2))))))
set_option maxHeartbeats 4000000 in
theorem ok_bag_at {a : Addr} {fd : FuncData} (F : L2.Fun K "bag_at" "bag_at" s_bag_at a fd) {a_set_at : Addr} {f_set_at : FuncData} (G_set_at : FnOk P w K mg base (L2.CX P w) 3 a_set_at f_set_at P_set_at (spG K ct 2 S_set_at)) (M_set_at : mg "set_at" = some (.ref a_set_at)) (K_set_at : PySem.W.keepIn K (.ref a_set_at) = true) (B_set_at : Binds K f_set_at P_set_at []) (Z_enumerate : mg "enumerate" = none) :
    FnOk P w K mg base (L2.CX P w) 4 a fd P_bag_at (spG K ct 2 S_bag_at) := by
  refine fn_ok (N := N_bag_at) (ct := ct) F sc_bag_at (by decide) (fun cdv A outer s H v E hr => ?_)
  have nd := sc_bag_at.nd
  exact ss_one (ss_ret (SF.fz (sf_lc [("k", 2), ("number", 3)] rfl nd (si_enum rfl Z_enumerate (sa_cons (se_call G_set_at (hr.mono (by decide)) (takes_of rfl rfl rfl rfl) rfl M_set_at K_set_at B_set_at (sa_cons (se_var 0) (sa_cons (se_var 1) (sa_nil))) (lenA_cons (lenA_cons (lenA_nil)))) (sa_nil))) (blkOk_by (by change blkC N_bag_at (defScope s_bag_at) _ _ = true; decide +kernel)) (by decide) (fun _ _ _ _ _ => sg_tup rfl (sgs_cons (sg_name 2 nd) (sgs_cons (sg_name 3 nd) (sgs_nil)))) (fun _ _ _ _ _ => sts_nil) (fun _ _ _ _ _ => se_bin o_sub (se_var 3) (se_var 2)))))
set_option maxHeartbeats 4000000 in
theorem ok_RisingMaker_chosen_at {a : Addr} {fd : FuncData} (F : L2.Fun K "chosen_at" "RisingMaker.chosen_at" s_RisingMaker_chosen_at a fd) {a_bag_at : Addr} {f_bag_at : FuncData} (G_bag_at : FnOk P w K mg base (L2.CX P w) 4 a_bag_at f_bag_at P_bag_at (spG K ct 2 S_bag_at)) (M_bag_at : mg "bag_at" = some (.ref a_bag_at)) (K_bag_at : PySem.W.keepIn K (.ref a_bag_at) = true) (B_bag_at : Binds K f_bag_at P_bag_at []) :
    FnOk P w K mg base (L2.CX P w) 5 a fd P_RisingMaker_chosen_at (spG K ct 3 S_RisingMaker_chosen_at) := by
  refine fn_ok (N := N_RisingMaker_chosen_at) (ct := ct) F sc_RisingMaker_chosen_at (by decide) (fun cdv A outer s H v E hr => ?_)
  have nd := sc_RisingMaker_chosen_at.nd
  exact ss_one (ss_ret (se_call G_bag_at (hr.mono (by decide)) (takes_of rfl rfl rfl rfl) rfl M_bag_at K_bag_at B_bag_at (sa_cons (se_var 1) (sa_cons (se_var 2) (sa_nil))) (lenA_cons (lenA_cons (lenA_nil)))))
set_option maxHeartbeats 4000000 in
theorem ok_TextMaker_told {a : Addr} {fd : FuncData} (F : L2.Fun K "told" "TextMaker.told" s_TextMaker_told a fd) (AT_signs : ClAt K ct cl_signs "signs") (Z_divmod : mg "divmod" = none) (Z_len : mg "len" = none) (Z_range : mg "range" = none) :
    FnOk P w K mg base (L2.CX P w) 1 a fd P_TextMaker_told (spG K ct 3 S_TextMaker_told) := by
  refine fn_ok (N := N_TextMaker_told) (ct := ct) F sc_TextMaker_told (by decide) (fun cdv A outer s H v E hr => ?_)
  have nd := sc_TextMaker_told.nd
  exact ss_cons (ss_set 3 (se_str) nd)
    (ss_cons (ss_for (passes_of rfl) rfl (si_range1 rfl Z_range (sa_cons (se_var 1) (sa_nil))) (sg_name 4 nd) (ss_cons (ss_asg (se_callB (b_divmod) rfl Z_divmod (by decide +kernel) (sa_cons (se_var 2) (sa_cons (se_callB (b_len) rfl Z_len (by decide +kernel) (sa_cons (se_at AT_signs (se_var 0)) (sa_nil))) (sa_nil)))) (sg_tup rfl (sgs_cons (sg_name 2 nd) (sgs_cons (sg_name 5 nd) (sgs_nil)))))
    (ss_one (ss_set 3 (se_bin o_add (se_ix (se_at AT_signs (se_var 0)) (se_var 5)) (se_var 3)) nd))))
    (ss_one (ss_ret (se_var 3))))
set_option maxHeartbeats 4000000 in
theorem ok_WholeMaker_told {a : Addr} {fd : FuncData} (F : L2.Fun K "told" "WholeMaker.told" s_WholeMaker_told a fd) (AT_low : ClAt K ct cl_low "low") :
    FnOk P w K mg base (L2.CX P w) 1 a fd P_WholeMaker_told (spG K ct 3 S_WholeMaker_told) := by
  refine fn_ok (N := N_WholeMaker_told) (ct := ct) F sc_WholeMaker_told (by decide) (fun cdv A outer s H v E hr => ?_)
  have nd := sc_WholeMaker_told.nd
  exact ss_cons (ss_if (st_cmp (o_eq (hu_big hr)) (se_var 1) (se_int)) (ss_one (ss_ret (se_at AT_low (se_var 0)))) (ss_nil))
    (ss_one (ss_ret (se_bin o_add (se_bin o_add (se_at AT_low (se_var 0)) (se_bin o_shl (se_int) (se_bin o_sub (se_var 1) (se_int)))) (se_var 2))))
set_option maxHeartbeats 4000000 in
theorem ok_first_taken {a : Addr} {fd : FuncData} (F : L2.Fun K "first_taken" "first_taken" s_first_taken a fd) (Z_divmod : mg "divmod" = none) :
    FnOk P w K mg base (L2.CX P w) 1 a fd P_first_taken (spG K ct 4 S_first_taken) := by
  refine fn_ok (N := N_first_taken) (ct := ct) F sc_first_taken (by decide) (fun cdv A outer s H v E hr => ?_)
  have nd := sc_first_taken.nd
  exact ss_cons (ss_set 4 (se_int) nd)
    (ss_cons (ss_while fuel (passes_of rfl) (st_cmp o_ge (se_var 3) (se_bin o_mul (se_ix (se_var 0) (se_var 4)) (se_ix (se_var 1) (se_bin o_sub (se_var 2) (se_var 4))))) (ss_cons (ss_aug 3 io_sub (se_bin o_mul (se_ix (se_var 0) (se_var 4)) (se_ix (se_var 1) (se_bin o_sub (se_var 2) (se_var 4)))) nd)
    (ss_one (ss_aug 4 io_addI (se_int) nd))))
    (ss_cons (ss_asg (se_callB (b_divmod) rfl Z_divmod (by decide +kernel) (sa_cons (se_var 3) (sa_cons (se_ix (se_var 1) (se_bin o_sub (se_var 2) (se_var 4))) (sa_nil)))) (sg_tup rfl (sgs_cons (sg_name 5 nd) (sgs_cons (sg_name 6 nd) (sgs_nil)))))
    (ss_one (ss_ret (se_tup (sa_cons (se_var 4) (sa_cons (se_var 5) (sa_cons (se_var 6) (sa_nil)))))))))
set_option maxHeartbeats 4000000 in
theorem ok_UnlikeMaker_chosen_at {a : Addr} {fd : FuncData} (F : L2.Fun K "chosen_at" "UnlikeMaker.chosen_at" s_UnlikeMaker_chosen_at a fd) {a_set_at : Addr} {f_set_at : FuncData} (G_set_at : FnOk P w K mg base (L2.CX P w) 3 a_set_at f_set_at P_set_at (spG K ct 2 S_set_at)) (M_set_at : mg "set_at" = some (.ref a_set_at)) (K_set_at : PySem.W.keepIn K (.ref a_set_at) = true) (B_set_at : Binds K f_set_at P_set_at []) :
    FnOk P w K mg base (L2.CX P w) 4 a fd P_UnlikeMaker_chosen_at (spG K ct 3 S_UnlikeMaker_chosen_at) := by
  refine fn_ok (N := N_UnlikeMaker_chosen_at) (ct := ct) F sc_UnlikeMaker_chosen_at (by decide) (fun cdv A outer s H v E hr => ?_)
  have nd := sc_UnlikeMaker_chosen_at.nd
  exact ss_one (ss_ret (se_call G_set_at (hr.mono (by decide)) (takes_of rfl rfl rfl rfl) rfl M_set_at K_set_at B_set_at (sa_cons (se_var 1) (sa_cons (se_var 2) (sa_nil))) (lenA_cons (lenA_cons (lenA_nil)))))
set_option maxHeartbeats 4000000 in
theorem ok_AlikeMaker_told {a : Addr} {fd : FuncData} (F : L2.Fun K "told" "AlikeMaker.told" s_AlikeMaker_told a fd) {k : Nat} (hk : 5 ≤ k) {c_AlikeMaker_told : List D → Sto → R D} {c_ManyMaker_told : List D → Sto → R D} {c_PickMaker_told : List D → Sto → R D} {c_RisingMaker_told : List D → Sto → R D} {c_RowMaker_told : List D → Sto → R D} {c_UseMaker_told : List D → Sto → R D} (VM_told : MtsOk P w K mg base ct k 3 "told" (mt_told S_WholeMaker_told S_TextMaker_told c_RowMaker_told c_ManyMaker_told c_RisingMaker_told c_AlikeMaker_told c_PickMaker_told c_UseMaker_told)) (AT_times : ClAt K ct cl_times "times") (AT_within : ClAt K ct cl_within "within") (Z_range : mg "range" = none) :
    FnOk P w K mg base (L2.CX P w) (k + 1) a fd P_AlikeMaker_told (spG K ct 3 (U_AlikeMaker_told c_AlikeMaker_told c_ManyMaker_told c_PickMaker_told c_RisingMaker_told c_RowMaker_told c_UseMaker_told)) := by
  refine fn_ok (N := N_AlikeMaker_told) (ct := ct) F sc_AlikeMaker_told (by decide) (fun cdv A outer s H v E hr => ?_)
  have nd := sc_AlikeMaker_told.nd
  exact ss_one (ss_ret (SF.fz (sf_lc [("k", 3)] rfl nd (si_range1 rfl Z_range (sa_cons (se_at AT_times (se_var 0)) (sa_nil))) (blkOk_by (by change blkC N_AlikeMaker_told (defScope s_AlikeMaker_told) _ _ = true; decide +kernel)) (by decide) (fun _ _ _ _ _ => sg_name 3 nd) (fun _ _ _ _ _ => sts_nil) (fun _ _ _ _ _ => se_meth VM_told hr takes0 (se_ix (se_at AT_within (se_var 0)) (se_int)) (sa_cons (se_bin o_sub (se_bin o_div (se_var 1) (se_at AT_times (se_var 0))) (se_int)) (sa_cons (se_var 2) (sa_nil))) (lenA_cons (lenA_cons (lenA_nil)))))))
set_option maxHeartbeats 4000000 in
theorem ok_ManyMaker_told {a : Addr} {fd : FuncData} (F : L2.Fun K "told" "ManyMaker.told" s_ManyMaker_told a fd) {k : Nat} (hk : 5 ≤ k) {c_AlikeMaker_told : List D → Sto → R D} {c_ManyMaker_told : List D → Sto → R D} {c_PickMaker_told : List D → Sto → R D} {c_RisingMaker_told : List D → Sto → R D} {c_RowMaker_told : List D → Sto → R D} {c_UseMaker_told : List D → Sto → R D} {a_first_taken : Addr} {f_first_taken : FuncData} (G_first_taken : FnOk P w K mg base (L2.CX P w) 1 a_first_taken f_first_taken P_first_taken (spG K ct 4 S_first_taken)) (M_first_taken : mg "first_taken" = some (.ref a_first_taken)) (K_first_taken : PySem.W.keepIn K (.ref a_first_taken) = true) (B_first_taken : Binds K f_first_taken P_first_taken []) (VM_told : MtsOk P w K mg base ct k 3 "told" (mt_told S_WholeMaker_told S_TextMaker_told c_RowMaker_told c_ManyMaker_told c_RisingMaker_told c_AlikeMaker_told c_PickMaker_told c_UseMaker_told)) (AT_counts : ClAt K ct cl_counts "counts") (AT_within : ClAt K ct cl_within "within") :
    FnOk P w K mg base (L2.CX P w) (k + 1) a fd P_ManyMaker_told (spG K ct 3 (U_ManyMaker_told c_AlikeMaker_told c_ManyMaker_told c_PickMaker_told c_RisingMaker_told c_RowMaker_told c_UseMaker_told)) := by
  refine fn_ok (N := N_ManyMaker_told) (ct := ct) F sc_ManyMaker_told (by decide) (fun cdv A outer s H v E hr => ?_)
  have nd := sc_ManyMaker_told.nd
  exact ss_cons (ss_set 3 (SF.nw (sf_lst (sa_nil))) nd)
    (ss_cons (ss_while fuel (passes_of rfl) (st_cmp o_gt (se_var 1) (se_int)) (ss_cons (ss_asg (se_call G_first_taken (hr.mono (Nat.le_trans (by decide) hk)) (takes_of rfl rfl rfl rfl) rfl M_first_taken K_first_taken B_first_taken (sa_cons (se_at AT_counts (se_ix (se_at AT_within (se_var 0)) (se_int))) (sa_cons (se_at AT_counts (se_var 0)) (sa_cons (se_bin o_sub (se_var 1) (se_int)) (sa_cons (se_var 2) (sa_nil))))) (lenA_cons (lenA_cons (lenA_cons (lenA_cons (lenA_nil)))))) (sg_tup rfl (sgs_cons (sg_name 4 nd) (sgs_cons (sg_name 5 nd) (sgs_cons (sg_name 2 nd) (sgs_nil))))))
    (ss_cons (ss_expr (se_app (se_var 3) (se_meth VM_told hr (takes_of rfl rfl rfl rfl) (se_ix (se_at AT_within (se_var 0)) (se_int)) (sa_cons (se_var 4) (sa_cons (se_var 5) (sa_nil))) (lenA_cons (lenA_cons (lenA_nil))))))
    (ss_one (ss_aug 1 io_sub (se_bin o_add (se_int) (se_var 4)) nd)))))
    (ss_one (ss_frz 3 (ss_ret (se_var 3)))))
set_option maxHeartbeats 4000000 in
theorem ok_PickMaker_told {a : Addr} {fd : FuncData} (F : L2.Fun K "told" "PickMaker.told" s_PickMaker_told a fd) {k : Nat} (hk : 5 ≤ k) {c_AlikeMaker_told : List D → Sto → R D} {c_ManyMaker_told : List D → Sto → R D} {c_PickMaker_told : List D → Sto → R D} {c_RisingMaker_told : List D → Sto → R D} {c_RowMaker_told : List D → Sto → R D} {c_UseMaker_told : List D → Sto → R D} (VM_told : MtsOk P w K mg base ct k 3 "told" (mt_told S_WholeMaker_told S_TextMaker_told c_RowMaker_told c_ManyMaker_told c_RisingMaker_told c_AlikeMaker_told c_PickMaker_told c_UseMaker_told)) (AT_counts : ClAt K ct cl_counts "counts") (AT_marks : ClAt K ct cl_marks "marks") (AT_within : ClAt K ct cl_within "within") :
    FnOk P w K mg base (L2.CX P w) (k + 1) a fd P_PickMaker_told (spG K ct 3 (U_PickMaker_told c_AlikeMaker_told c_ManyMaker_told c_PickMaker_told c_RisingMaker_told c_RowMaker_told c_UseMaker_told)) := by
  refine fn_ok (N := N_PickMaker_told) (ct := ct) F sc_PickMaker_told (by decide) (fun cdv A outer s H v E hr => ?_)
  have nd := sc_PickMaker_told.nd
  exact ss_cons (ss_set 3 (se_int) nd)
    (ss_cons (ss_while fuel (passes_of rfl) (st_cmp o_ge (se_var 2) (se_ix (se_at AT_counts (se_ix (se_at AT_within (se_var 0)) (se_var 3))) (se_var 1))) (ss_cons (ss_aug 2 io_sub (se_ix (se_at AT_counts (se_ix (se_at AT_within (se_var 0)) (se_var 3))) (se_var 1)) nd)
    (ss_one (ss_aug 3 io_addI (se_int) nd))))
    (ss_one (ss_ret (se_tup (sa_cons (se_ix (se_at AT_marks (se_var 0)) (se_var 3)) (sa_cons (se_meth VM_told hr (takes_of rfl rfl rfl rfl) (se_ix (se_at AT_within (se_var 0)) (se_var 3)) (sa_cons (se_var 1) (sa_cons (se_var 2) (sa_nil))) (lenA_cons (lenA_cons (lenA_nil)))) (sa_nil)))))))
set_option maxHeartbeats 4000000 in
theorem ok_RisingMaker_told {a : Addr} {fd : FuncData} (F : L2.Fun K "told" "RisingMaker.told" s_RisingMaker_told a fd) {k : Nat} (hk : 5 ≤ k) {c_AlikeMaker_told : List D → Sto → R D} {c_ManyMaker_told : List D → Sto → R D} {c_PickMaker_told : List D → Sto → R D} {c_RisingMaker_told : List D → Sto → R D} {c_RowMaker_told : List D → Sto → R D} {c_UseMaker_told : List D → Sto → R D} (VM_beyond : MtsOk P w K mg base ct 1 3 "beyond" (mt_beyond S_RisingMaker_beyond)) (VM_block : MtsOk P w K mg base ct 4 4 "block" (mt_block S_RisingMaker_block)) (VM_chosen_at : MtsOk P w K mg base ct 5 3 "chosen_at" (mt_chosen_at S_RisingMaker_chosen_at S_UnlikeMaker_chosen_at)) (VM_told : MtsOk P w K mg base ct k 3 "told" (mt_told S_WholeMaker_told S_TextMaker_told c_RowMaker_told c_ManyMaker_told c_RisingMaker_told c_AlikeMaker_told c_PickMaker_told c_UseMaker_told)) (AT_within : ClAt K ct cl_within "within") (Z_divmod : mg "divmod" = none) :
    FnOk P w K mg base (L2.CX P w) (k + 1) a fd P_RisingMaker_told (spG K ct 3 (U_RisingMaker_told c_AlikeMaker_told c_ManyMaker_told c_PickMaker_told c_RisingMaker_told c_RowMaker_told c_UseMaker_told)) := by
  refine fn_ok (N := N_RisingMaker_told) (ct := ct) F sc_RisingMaker_told (by decide) (fun cdv A outer s H v E hr => ?_)
  have nd := sc_RisingMaker_told.nd
  exact ss_cons (ss_set 3 (SF.nw (sf_lst (sa_nil))) nd)
    (ss_cons (ss_set 4 (se_int) nd)
    (ss_cons (ss_while fuel (passes_of rfl) (st_cmp o_gt (se_var 1) (se_int)) (ss_cons (ss_set 5 (se_int) nd)
    (ss_cons (ss_while fuel (passes_of rfl) (st_cmp o_ge (se_var 2) (se_meth VM_block (hr.mono (Nat.le_trans (by decide) hk)) (takes_of rfl rfl rfl rfl) (se_var 0) (sa_cons (se_var 4) (sa_cons (se_var 1) (sa_cons (se_var 5) (sa_nil)))) (lenA_cons (lenA_cons (lenA_cons (lenA_nil)))))) (ss_cons (ss_aug 2 io_sub (se_meth VM_block (hr.mono (Nat.le_trans (by decide) hk)) (takes_of rfl rfl rfl rfl) (se_var 0) (sa_cons (se_var 4) (sa_cons (se_var 1) (sa_cons (se_var 5) (sa_nil)))) (lenA_cons (lenA_cons (lenA_cons (lenA_nil))))) nd)
    (ss_one (ss_aug 5 io_addI (se_int) nd))))
    (ss_cons (ss_aug 1 io_sub (se_bin o_mul (se_var 5) (se_bin o_add (se_var 4) (se_int))) nd)
    (ss_cons (ss_asg (se_callB (b_divmod) rfl Z_divmod (by decide +kernel) (sa_cons (se_var 2) (sa_cons (se_meth VM_beyond (hr.mono (Nat.le_trans (by decide) hk)) (takes_of rfl rfl rfl rfl) (se_var 0) (sa_cons (se_bin o_add (se_var 4) (se_int)) (sa_cons (se_var 1) (sa_nil))) (lenA_cons (lenA_cons (lenA_nil)))) (sa_nil)))) (sg_tup rfl (sgs_cons (sg_name 6 nd) (sgs_cons (sg_name 2 nd) (sgs_nil)))))
    (ss_cons (ss_expr (se_ext (se_var 3) (SF.nw (sf_lc [("place", 7)] rfl nd (si_seq (se_meth VM_chosen_at (hr.mono (Nat.le_trans (by decide) hk)) (takes_of rfl rfl rfl rfl) (se_var 0) (sa_cons (se_var 5) (sa_cons (se_var 6) (sa_nil))) (lenA_cons (lenA_cons (lenA_nil))))) (blkOk_by (by change blkC N_RisingMaker_told (defScope s_RisingMaker_told) _ _ = true; decide +kernel)) (by decide) (fun _ _ _ _ _ => sg_name 7 nd) (fun _ _ _ _ _ => sts_nil) (fun _ _ _ _ _ => se_meth VM_told hr takes0 (se_ix (se_at AT_within (se_var 0)) (se_int)) (sa_cons (se_var 4) (sa_cons (se_var 7) (sa_nil))) (lenA_cons (lenA_cons (lenA_nil))))))))
    (ss_one (ss_aug 4 io_addI (se_int) nd))))))))
    (ss_one (ss_frz 3 (ss_ret (se_var 3))))))
set_option maxHeartbeats 4000000 in
theorem ok_RowMaker_told {a : Addr} {fd : FuncData} (F : L2.Fun K "told" "RowMaker.told" s_RowMaker_told a fd) {k : Nat} (hk : 5 ≤ k) {c_AlikeMaker_told : List D → Sto → R D} {c_ManyMaker_told : List D → Sto → R D} {c_PickMaker_told : List D → Sto → R D} {c_RisingMaker_told : List D → Sto → R D} {c_RowMaker_told : List D → Sto → R D} {c_UseMaker_told : List D → Sto → R D} {a_first_taken : Addr} {f_first_taken : FuncData} (G_first_taken : FnOk P w K mg base (L2.CX P w) 1 a_first_taken f_first_taken P_first_taken (spG K ct 4 S_first_taken)) (M_first_taken : mg "first_taken" = some (.ref a_first_taken)) (K_first_taken : PySem.W.keepIn K (.ref a_first_taken) = true) (B_first_taken : Binds K f_first_taken P_first_taken []) (VM_told : MtsOk P w K mg base ct k 3 "told" (mt_told S_WholeMaker_told S_TextMaker_told c_RowMaker_told c_ManyMaker_told c_RisingMaker_told c_AlikeMaker_told c_PickMaker_told c_UseMaker_told)) (AT_counts : ClAt K ct cl_counts "counts") (AT_rests : ClAt K ct cl_rests "rests") (AT_within : ClAt K ct cl_within "within") (Z_enumerate : mg "enumerate" = none) (Z_tuple : mg "tuple" = none) :
    FnOk P w K mg base (L2.CX P w) (k + 1) a fd P_RowMaker_told (spG K ct 3 (U_RowMaker_told c_AlikeMaker_told c_ManyMaker_told c_PickMaker_told c_RisingMaker_told c_RowMaker_told c_UseMaker_told)) := by
  refine fn_ok (N := N_RowMaker_told) (ct := ct) F sc_RowMaker_told (by decide) (fun cdv A outer s H v E hr => ?_)
  have nd := sc_RowMaker_told.nd
  exact ss_cons (ss_set 3 (SF.nw (sf_lst (sa_nil))) nd)
    (ss_cons (ss_for (passes_of rfl) rfl (si_enum rfl Z_enumerate (sa_cons (se_at AT_within (se_var 0)) (sa_nil))) (sg_tup rfl (sgs_cons (sg_name 4 nd) (sgs_cons (sg_name 5 nd) (sgs_nil)))) (ss_cons (ss_asg (se_call G_first_taken (hr.mono (Nat.le_trans (by decide) hk)) (takes_of rfl rfl rfl rfl) rfl M_first_taken K_first_taken B_first_taken (sa_cons (se_at AT_counts (se_var 5)) (sa_cons (se_ix (se_at AT_rests (se_var 0)) (se_bin o_add (se_var 4) (se_int))) (sa_cons (se_var 1) (sa_cons (se_var 2) (sa_nil))))) (lenA_cons (lenA_cons (lenA_cons (lenA_cons (lenA_nil)))))) (sg_tup rfl (sgs_cons (sg_name 6 nd) (sgs_cons (sg_name 7 nd) (sgs_cons (sg_name 2 nd) (sgs_nil))))))
    (ss_cons (ss_expr (se_app (se_var 3) (se_meth VM_told hr (takes_of rfl rfl rfl rfl) (se_var 5) (sa_cons (se_var 6) (sa_cons (se_var 7) (sa_nil))) (lenA_cons (lenA_cons (lenA_nil))))))
    (ss_one (ss_aug 1 io_sub (se_var 6) nd)))))
    (ss_one (ss_frz 3 (ss_ret (se_callT (b_tuple) rfl Z_tuple (by decide +kernel) (sa_cons (se_var 3) (sa_nil)))))))
set_option maxHeartbeats 4000000 in
theorem ok_UseMaker_told {a : Addr} {fd : FuncData} (F : L2.Fun K "told" "UseMaker.told" s_UseMaker_told a fd) {k : Nat} (hk : 5 ≤ k) {c_AlikeMaker_told : List D → Sto → R D} {c_ManyMaker_told : List D → Sto → R D} {c_PickMaker_told : List D → Sto → R D} {c_RisingMaker_told : List D → Sto → R D} {c_RowMaker_told : List D → Sto → R D} {c_UseMaker_told : List D → Sto → R D} (VM_told : MtsOk P w K mg base ct k 3 "told" (mt_told S_WholeMaker_told S_TextMaker_told c_RowMaker_told c_ManyMaker_told c_RisingMaker_told c_AlikeMaker_told c_PickMaker_told c_UseMaker_told)) (AT_name : ClAt K ct cl_name "name") (AT_named : ClAt K ct cl_named "named") :
    FnOk P w K mg base (L2.CX P w) (k + 1) a fd P_UseMaker_told (spG K ct 3 (U_UseMaker_told c_AlikeMaker_told c_ManyMaker_told c_PickMaker_told c_RisingMaker_told c_RowMaker_told c_UseMaker_told)) := by
  refine fn_ok (N := N_UseMaker_told) (ct := ct) F sc_UseMaker_told (by decide) (fun cdv A outer s H v E hr => ?_)
  have nd := sc_UseMaker_told.nd
  exact ss_one (ss_ret (se_meth VM_told hr (takes_of rfl rfl rfl rfl) (se_dix (Nat.lt_trans (Nat.add_lt_add_left (by decide) _) (hu_big hr)) (se_at AT_named (se_var 0)) (se_at AT_name (se_var 0))) (sa_cons (se_bin o_sub (se_var 1) (se_int)) (sa_cons (se_var 2) (sa_nil))) (lenA_cons (lenA_cons (lenA_nil)))))
set_option maxHeartbeats 4000000 in
theorem ok_Tables_told {a : Addr} {fd : FuncData} (F : L2.Fun K "told" "Tables.told" s_Tables_told a fd) (VM_told : MtsOk P w K mg base ct 25 3 "told" (mt_told S_WholeMaker_told S_TextMaker_told (S_RowMaker_told 20) (S_ManyMaker_told 20) (S_RisingMaker_told 20) (S_AlikeMaker_told 20) (S_PickMaker_told 20) (S_UseMaker_told 20))) (AT_top : ClAt K ct cl_top "top") :
    FnOk P w K mg base (L2.CX P w) 26 a fd P_Tables_told (spG K ct 3 S_Tables_told) := by
  refine fn_ok (N := N_Tables_told) (ct := ct) F sc_Tables_told (by decide) (fun cdv A outer s H v E hr => ?_)
  have nd := sc_Tables_told.nd
  exact ss_one (ss_ret (se_meth VM_told (hr.mono (by decide)) (takes_of rfl rfl rfl rfl) (se_at AT_top (se_var 0)) (sa_cons (se_var 1) (sa_cons (se_var 2) (sa_nil))) (lenA_cons (lenA_cons (lenA_nil)))))
set_option maxHeartbeats 4000000 in
theorem ok_fair {a : Addr} {fd : FuncData} (F : L2.Fun K "fair" "fair" s_fair a fd) (Z_divmod : mg "divmod" = none) (X_NoDraw : XC K mg ct "NoDraw") :
    FnOk P w K mg base (L2.CX P w) 1 a fd P_fair (spG K ct 3 S_fair) := by
  refine fn_ok (N := N_fair) (ct := ct) F sc_fair (by decide) (fun cdv A outer s H v E hr => ?_)
  have nd := sc_fair.nd
  exact ss_cons (ss_if (st_cmp o_le (se_var 2) (se_int)) (ss_one (ss_raise (cn := "NoDraw") rfl (takes_of rfl rfl rfl rfl) X_NoDraw rfl)) (ss_nil))
    (ss_cons (ss_set 3 (se_ix (se_callB (b_divmod) rfl Z_divmod (by decide +kernel) (sa_cons (se_var 1) (sa_cons (se_var 2) (sa_nil)))) (se_int)) nd)
    (ss_cons (ss_set 4 (se_bin o_sub (se_var 1) (se_var 3)) nd)
    (ss_cons (ss_set 5 (se_int) nd)
    (ss_cons (ss_for (passes_of rfl) rfl (si_seq (se_var 0)) (sg_name 6 nd) (ss_cons (ss_aug 5 io_addI (se_int) nd)
    (ss_one (ss_if (st_cmp o_lt (se_var 6) (se_var 4)) (ss_one (ss_ret (se_tup (sa_cons (se_var 5) (sa_cons (se_bin o_mod (se_var 6) (se_var 2)) (sa_nil)))))) (ss_nil)))))
    (ss_one (ss_raise (cn := "NoDraw") rfl (takes_of rfl rfl rfl rfl) X_NoDraw rfl))))))
set_option maxHeartbeats 4000000 in
theorem ok_drawn_values {a : Addr} {fd : FuncData} (F : L2.Fun K "drawn_values" "drawn_values" s_drawn_values a fd) {a_fair : Addr} {f_fair : FuncData} (G_fair : FnOk P w K mg base (L2.CX P w) 1 a_fair f_fair P_fair (spG K ct 3 S_fair)) (M_fair : mg "fair" = some (.ref a_fair)) (K_fair : PySem.W.keepIn K (.ref a_fair) = true) (B_fair : Binds K f_fair P_fair []) {a_Tables___init__ : Addr} {f_Tables___init__ : FuncData} (G_Tables___init__ : FnOk P w K mg base (L2.CX P w) 24 a_Tables___init__ f_Tables___init__ P_Tables___init__ (spG K ct 3 S_Tables___init__)) (B_Tables___init__ : Binds K f_Tables___init__ P_Tables___init__ []) (MK_Tables : Mk K (ct "Tables") a_Tables___init__) (VM_counts_at_T : MtsOk P w K mg base ct 1 2 "counts_at" (mt_counts_at_T S_Tables_counts_at)) (VM_grow_to_T : MtsOk P w K mg base ct 26 2 "grow_to" (mt_grow_to_T S_Tables_grow_to)) (VM_told_T : MtsOk P w K mg base ct 26 3 "told" (mt_told_T S_Tables_told)) (Z_list : mg "list" = none) (X_NoDraw : XC K mg ct "NoDraw") (GC_NoDraw : mg "NoDraw" = some (.ref (ct "NoDraw"))) (GC_Tables : mg "Tables" = some (.ref (ct "Tables"))) (XT_NoDraw : XT K ct (ct "NoDraw") xt_NoDraw) :
    FnOk P w K mg base (L2.CX P w) 27 a fd P_drawn_values (spG K ct 5 S_drawn_values) := by
  refine fn_ok (N := N_drawn_values) (ct := ct) F sc_drawn_values (by decide) (fun cdv A outer s H v E hr => ?_)
  have nd := sc_drawn_values.nd
  exact ss_cons (ss_set 5 (se_make (c := "Tables") MK_Tables GC_Tables G_Tables___init__ (hr.mono (by decide)) (takes_of rfl rfl rfl rfl) rfl B_Tables___init__ (sa_cons (se_var 0) (sa_cons (se_var 1) (sa_nil))) (lenA_cons (lenA_cons (lenA_nil)))) nd)
    (ss_cons (ss_expr (se_meth VM_grow_to_T (hr.mono (by decide)) (takes_of rfl rfl rfl rfl) (se_var 5) (sa_cons (se_var 2) (sa_nil)) (lenA_cons (lenA_nil))))
    (ss_cons (ss_set 6 (se_meth VM_counts_at_T (hr.mono (by decide)) (takes_of rfl rfl rfl rfl) (se_var 5) (sa_cons (se_var 2) (sa_nil)) (lenA_cons (lenA_nil))) nd)
    (ss_cons (ss_if (st_cmp (o_eq (hu_big hr)) (se_var 6) (se_int)) (ss_one (ss_raise (cn := "NoDraw") rfl (takes_of rfl rfl rfl rfl) X_NoDraw rfl)) (ss_nil))
    (ss_cons (ss_set 7 (se_callT (b_list rfl) rfl Z_list (by decide +kernel) (sa_cons (se_var 3) (sa_nil))) nd)
    (ss_cons (ss_set 8 (SF.nw (sf_lst (sa_nil))) nd)
    (ss_cons (ss_while fuel (passes_of rfl) (st_val (se_bl)) (ss_one (ss_try_else rfl rfl ⟨rfl, by decide, .inl GC_NoDraw⟩ (takes_of rfl rfl rfl rfl) XT_NoDraw (fun W pn xe tk hp => ss_one (ss_asg (se_call G_fair (hr.mono (by decide)) tk rfl M_fair K_fair B_fair (sa_cons (se_var 7) (sa_cons (se_var 4) (sa_cons (se_var 6) (sa_nil)))) (lenA_cons (lenA_cons (lenA_cons (lenA_nil))))) (sg_tup rfl (sgs_cons (sg_name 9 nd) (sgs_cons (sg_name 10 nd) (sgs_nil)))))) (fun a pn => ss_one (ss_break)) (ss_cons (ss_expr (se_app (se_var 8) (se_meth VM_told_T (hr.mono (by decide)) (takes_of rfl rfl rfl rfl) (se_var 5) (sa_cons (se_var 2) (sa_cons (se_var 10) (sa_nil))) (lenA_cons (lenA_cons (lenA_nil))))))
    (ss_one (ss_set 7 (se_sl (se_var 7) (so_some (se_var 9)) (so_none)) nd))))))
    (ss_one (ss_ret (se_var 8)))))))))
set_option maxHeartbeats 4000000 in
theorem ok_l_refused {a : Addr} {fd : FuncData} (F : L2.Fun K "_law_refused" "_law_refused" s_l_refused a fd) {a_drawn_values : Addr} {f_drawn_values : FuncData} (G_drawn_values : FnOk P w K mg base (L2.CX P w) 27 a_drawn_values f_drawn_values P_drawn_values (spG K ct 5 S_drawn_values)) (M_drawn_values : mg "drawn_values" = some (.ref a_drawn_values)) (K_drawn_values : PySem.W.keepIn K (.ref a_drawn_values) = true) (B_drawn_values : Binds K f_drawn_values P_drawn_values []) (Z_ValueError : mg "ValueError" = none) (Z_isinstance : mg "isinstance" = none) (GC_CountError : mg "CountError" = some (.ref (ct "CountError"))) (GC_NoDraw : mg "NoDraw" = some (.ref (ct "NoDraw"))) (GC_NoNumber : mg "NoNumber" = some (.ref (ct "NoNumber"))) (GC_TooMany : mg "TooMany" = some (.ref (ct "TooMany"))) (EI_CountError : EI K ct tb_CountError (.ref (ct "CountError"))) (EI_NoNumber : EI K ct tb_NoNumber (.ref (ct "NoNumber"))) (EI_TooMany : EI K ct tb_TooMany (.ref (ct "TooMany"))) (EI_ValueError : EI K ct tb_ValueError (.type "ValueError")) (XT_NoDraw : XT K ct (ct "NoDraw") xt_NoDraw) :
    FnOk P w K mg base (L2.CX P w) 28 a fd P_l_refused (spG K ct 5 S_l_refused) := by
  refine fn_ok (N := N_l_refused) (ct := ct) F sc_l_refused (by decide) (fun cdv A outer s H v E hr => ?_)
  have nd := sc_l_refused.nd
  exact ss_cons (ss_set 5 (se_non) nd)
    (ss_cons (ss_try_suite (i := 6) rfl rfl nd rfl rfl rfl ⟨rfl, by decide, .inl GC_NoDraw⟩ (takes_of rfl rfl rfl rfl) XT_NoDraw (fun W pn xe tk hp => ss_one (ss_expr (se_call G_drawn_values (hr.mono (by decide)) tk rfl M_drawn_values K_drawn_values B_drawn_values (sa_cons (se_var 0) (sa_cons (se_var 1) (sa_cons (se_var 2) (sa_cons (se_var 3) (sa_cons (se_var 4) (sa_nil)))))) (lenA_cons (lenA_cons (lenA_cons (lenA_cons (lenA_cons (lenA_nil))))))))) (fun a pn => ss_one (ss_set 5 (se_var 6) nd)))
    (ss_cons (ss_if (PW.pt (sw_or (st_cmp o_isN (se_var 5) (se_non)) (sw_or (st_val (se_isD (se_var 5) rfl Z_isinstance (pe_glob (v := .ref (ct "NoNumber")) rfl GC_NoNumber rfl) (.own _) EI_NoNumber)) (sw_or1 (st_val (se_isD (se_var 5) rfl Z_isinstance (pe_glob (v := .ref (ct "TooMany")) rfl GC_TooMany rfl) (.own _) EI_TooMany)))))) (ss_one (ss_ret (se_bl))) (ss_nil))
    (ss_one (ss_ret (se_and (se_isD (se_var 5) rfl Z_isinstance (pe_glob (v := .ref (ct "CountError")) rfl GC_CountError rfl) (.own _) EI_CountError) (se_one (se_isD (se_var 5) rfl Z_isinstance (pe_bltn (v := .ty "ValueError") rfl Z_ValueError (u := .type "ValueError") (by decide +kernel) rfl) (.ty _) EI_ValueError)))))))
set_option maxHeartbeats 4000000 in
theorem ok_l_signs {a : Addr} {fd : FuncData} (F : L2.Fun K "_law_signs" "_law_signs" s_l_signs a fd) (Z_range : mg "range" = none) :
    FnOk P w K mg base (L2.CX P w) 1 a fd P_l_signs (spG K ct 2 S_l_signs) := by
  refine fn_ok (N := N_l_signs) (ct := ct) F sc_l_signs (by decide) (fun cdv A outer s H v E hr => ?_)
  have nd := sc_l_signs.nd
  exact ss_cons (ss_set 2 (se_str) nd)
    (ss_one (ss_ret (se_m1 PySem.F.slot_str_join PySem.F.type_str_join m_join (se_str) (SF.fz (sf_lc [("_law_k", 3)] rfl nd (si_range1 rfl Z_range (sa_cons (se_var 1) (sa_nil))) (blkOk_by (by change blkC N_l_signs (defScope s_l_signs) _ _ = true; decide +kernel)) (by decide) (fun _ _ _ _ _ => sg_name 3 nd) (fun _ _ _ _ _ => sts_nil) (fun _ _ _ _ _ => se_ix (se_var 2) (se_bin o_mod (se_bin o_add (se_var 0) (se_bin o_mul (se_int) (se_var 3))) (se_int))))))))
set_option maxHeartbeats 4000000 in
theorem ok_l_value {a : Addr} {fd : FuncData} (F : L2.Fun K "_law_value" "_law_value" s_l_value a fd) (Z_divmod : mg "divmod" = none) (Z_len : mg "len" = none) (Z_range : mg "range" = none) :
    FnOk P w K mg base (L2.CX P w) 1 a fd P_l_value (spG K ct 3 S_l_value) := by
  refine fn_ok (N := N_l_value) (ct := ct) F sc_l_value (by decide) (fun cdv A outer s H v E hr => ?_)
  have nd := sc_l_value.nd
  exact ss_cons (ss_if (st_cmp (o_eq (hu_big hr)) (se_ix (se_var 0) (se_int)) (se_str)) (ss_cons (ss_if (st_cmp (o_eq (hu_big hr)) (se_var 1) (se_int)) (ss_one (ss_ret (se_ix (se_var 0) (se_int)))) (ss_nil))
    (ss_one (ss_ret (se_bin o_add (se_bin o_add (se_ix (se_var 0) (se_int)) (se_bin o_shl (se_int) (se_bin o_sub (se_var 1) (se_int)))) (se_var 2))))) (ss_nil))
    (ss_cons (ss_set 3 (se_str) nd)
    (ss_cons (ss_for (passes_of rfl) rfl (si_range1 rfl Z_range (sa_cons (se_var 1) (sa_nil))) (sg_name 4 nd) (ss_cons (ss_asg (se_callB (b_divmod) rfl Z_divmod (by decide +kernel) (sa_cons (se_var 2) (sa_cons (se_callB (b_len) rfl Z_len (by decide +kernel) (sa_cons (se_ix (se_var 0) (se_int)) (sa_nil))) (sa_nil)))) (sg_tup rfl (sgs_cons (sg_name 2 nd) (sgs_cons (sg_name 5 nd) (sgs_nil)))))
    (ss_one (ss_set 3 (se_bin o_add (se_ix (se_ix (se_var 0) (se_int)) (se_var 5)) (se_var 3)) nd))))
    (ss_one (ss_ret (se_var 3)))))
set_option maxHeartbeats 4000000 in
theorem ok_law {a : Addr} {fd : FuncData} (F : L2.Fun K "law" "law" s_law a fd) {a_l_alike : Addr} {f_l_alike : FuncData} (G_l_alike : FnOk P w K mg base (L2.CX P w) 1 a_l_alike f_l_alike P_l_alike (spG K ct 2 S_l_alike)) (M_l_alike : mg "_law_alike" = some (.ref a_l_alike)) (K_l_alike : PySem.W.keepIn K (.ref a_l_alike) = true) (B_l_alike : Binds K f_l_alike P_l_alike []) {a_l_cell_at : Addr} {f_l_cell_at : FuncData} (G_l_cell_at : FnOk P w K mg base (L2.CX P w) 1 a_l_cell_at f_l_cell_at P_l_cell_at (spG K ct 2 S_l_cell_at)) (M_l_cell_at : mg "_law_cell_at" = some (.ref a_l_cell_at)) (K_l_cell_at : PySem.W.keepIn K (.ref a_l_cell_at) = true) (B_l_cell_at : Binds K f_l_cell_at P_l_cell_at []) {a_l_count : Addr} {f_l_count : FuncData} (G_l_count : FnOk P w K mg base (L2.CX P w) 1 a_l_count f_l_count P_l_count (spG K ct 2 S_l_count)) (M_l_count : mg "_law_count" = some (.ref a_l_count)) (K_l_count : PySem.W.keepIn K (.ref a_l_count) = true) (B_l_count : Binds K f_l_count P_l_count []) {a_l_refused : Addr} {f_l_refused : FuncData} (G_l_refused : FnOk P w K mg base (L2.CX P w) 28 a_l_refused f_l_refused P_l_refused (spG K ct 5 S_l_refused)) (M_l_refused : mg "_law_refused" = some (.ref a_l_refused)) (K_l_refused : PySem.W.keepIn K (.ref a_l_refused) = true) (B_l_refused : Binds K f_l_refused P_l_refused []) {a_l_signs : Addr} {f_l_signs : FuncData} (G_l_signs : FnOk P w K mg base (L2.CX P w) 1 a_l_signs f_l_signs P_l_signs (spG K ct 2 S_l_signs)) (M_l_signs : mg "_law_signs" = some (.ref a_l_signs)) (K_l_signs : PySem.W.keepIn K (.ref a_l_signs) = true) (B_l_signs : Binds K f_l_signs P_l_signs []) {a_l_value : Addr} {f_l_value : FuncData} (G_l_value : FnOk P w K mg base (L2.CX P w) 1 a_l_value f_l_value P_l_value (spG K ct 3 S_l_value)) (M_l_value : mg "_law_value" = some (.ref a_l_value)) (K_l_value : PySem.W.keepIn K (.ref a_l_value) = true) (B_l_value : Binds K f_l_value P_l_value []) {a_drawn_values : Addr} {f_drawn_values : FuncData} (G_drawn_values : FnOk P w K mg base (L2.CX P w) 27 a_drawn_values f_drawn_values P_drawn_values (spG K ct 5 S_drawn_values)) (M_drawn_values : mg "drawn_values" = some (.ref a_drawn_values)) (K_drawn_values : PySem.W.keepIn K (.ref a_drawn_values) = true) (B_drawn_values : Binds K f_drawn_values P_drawn_values []) (Z_list : mg "list" = none) (Z_range : mg "range" = none) :
    FnOk P w K mg base (L2.CX P w) 29 a fd P_law (spG K ct 1 S_law) := by
  refine fn_ok (N := N_law) (ct := ct) F sc_law (by decide) (fun cdv A outer s H v E hr => ?_)
  have nd := sc_law.nd
  exact ss_cons (ss_set 1 (se_bin o_sub (se_bin o_mod (se_call G_l_cell_at (hr.mono (by decide)) (takes_of rfl rfl rfl rfl) rfl M_l_cell_at K_l_cell_at B_l_cell_at (sa_cons (se_var 0) (sa_cons (se_int) (sa_nil))) (lenA_cons (lenA_cons (lenA_nil)))) (se_bin o_pow (se_int) (se_int))) (se_bin o_mul (se_int) (se_bin o_pow (se_int) (se_int)))) nd)
    (ss_cons (ss_set 2 (se_tup (sa_cons (se_str) (sa_cons (se_var 1) (sa_cons (se_bin o_add (se_var 1) (se_bin o_mod (se_bin o_mul (se_call G_l_cell_at (hr.mono (by decide)) (takes_of rfl rfl rfl rfl) rfl M_l_cell_at K_l_cell_at B_l_cell_at (sa_cons (se_var 0) (sa_cons (se_int) (sa_nil))) (lenA_cons (lenA_cons (lenA_nil)))) (se_int)) (se_int))) (sa_nil))))) nd)
    (ss_cons (ss_if (st_cmp (o_eq (hu_big hr)) (se_bin o_mod (se_call G_l_cell_at (hr.mono (by decide)) (takes_of rfl rfl rfl rfl) rfl M_l_cell_at K_l_cell_at B_l_cell_at (sa_cons (se_var 0) (sa_cons (se_int) (sa_nil))) (lenA_cons (lenA_cons (lenA_nil)))) (se_int)) (se_int)) (ss_one (ss_set 2 (se_tup (sa_cons (se_str) (sa_cons (se_call G_l_signs (hr.mono (by decide)) (takes_of rfl rfl rfl rfl) rfl M_l_signs K_l_signs B_l_signs (sa_cons (se_call G_l_cell_at (hr.mono (by decide)) (takes_of rfl rfl rfl rfl) rfl M_l_cell_at K_l_cell_at B_l_cell_at (sa_cons (se_var 0) (sa_cons (se_int) (sa_nil))) (lenA_cons (lenA_cons (lenA_nil)))) (sa_cons (se_bin o_add (se_int) (se_bin o_mod (se_call G_l_cell_at (hr.mono (by decide)) (takes_of rfl rfl rfl rfl) rfl M_l_cell_at K_l_cell_at B_l_cell_at (sa_cons (se_var 0) (sa_cons (se_int) (sa_nil))) (lenA_cons (lenA_cons (lenA_nil)))) (se_int))) (sa_nil))) (lenA_cons (lenA_cons (lenA_nil)))) (sa_nil)))) nd)) (ss_nil))
    (ss_cons (ss_set 3 (se_bin o_mod (se_call G_l_cell_at (hr.mono (by decide)) (takes_of rfl rfl rfl rfl) rfl M_l_cell_at K_l_cell_at B_l_cell_at (sa_cons (se_var 0) (sa_cons (se_int) (sa_nil))) (lenA_cons (lenA_cons (lenA_nil)))) (se_int)) nd)
    (ss_cons (ss_set 4 (SF.fz (sf_lst (sa_cons (se_tup (sa_cons (se_str) (sa_cons (se_tup (sa_cons (se_str) (sa_cons (se_str) (sa_nil)))) (sa_nil)))) (sa_nil)))) nd)
    (ss_cons (ss_set 5 (se_call G_l_count (hr.mono (by decide)) (takes_of rfl rfl rfl rfl) rfl M_l_count K_l_count B_l_count (sa_cons (se_var 2) (sa_cons (se_var 3) (sa_nil))) (lenA_cons (lenA_cons (lenA_nil)))) nd)
    (ss_cons (ss_set 6 (se_bin o_add (se_int) (se_bin o_mod (se_call G_l_cell_at (hr.mono (by decide)) (takes_of rfl rfl rfl rfl) rfl M_l_cell_at K_l_cell_at B_l_cell_at (sa_cons (se_var 0) (sa_cons (se_int) (sa_nil))) (lenA_cons (lenA_cons (lenA_nil)))) (se_bin o_pow (se_int) (se_int)))) nd)
    (ss_cons (ss_if (st_cmp (o_ne (hu_big hr)) (se_bin o_mod (se_call G_l_cell_at (hr.mono (by decide)) (takes_of rfl rfl rfl rfl) rfl M_l_cell_at K_l_cell_at B_l_cell_at (sa_cons (se_var 0) (sa_cons (se_int) (sa_nil))) (lenA_cons (lenA_cons (lenA_nil)))) (se_int)) (se_int)) (ss_one (ss_set 6 (se_bin o_add (se_int) (se_bin o_mod (se_bin o_div (se_call G_l_cell_at (hr.mono (by decide)) (takes_of rfl rfl rfl rfl) rfl M_l_cell_at K_l_cell_at B_l_cell_at (sa_cons (se_var 0) (sa_cons (se_int) (sa_nil))) (lenA_cons (lenA_cons (lenA_nil)))) (se_int)) (se_bin o_add (se_bin o_mul (se_int) (se_var 5)) (se_int)))) nd)) (ss_nil))
    (ss_cons (ss_set 7 (se_call G_l_cell_at (hr.mono (by decide)) (takes_of rfl rfl rfl rfl) rfl M_l_cell_at K_l_cell_at B_l_cell_at (sa_cons (se_var 0) (sa_cons (se_int) (sa_nil))) (lenA_cons (lenA_cons (lenA_nil)))) nd)
    (ss_cons (ss_setLc 8 (g := eFz) [("_law_cell", 13)] (fun _ _ _ z => lift_fz z) rfl nd rfl rfl (sw_true rfl rfl rfl (by decide +kernel)) (si_seq (se_sl (se_var 0) (so_some (se_int)) (so_some (se_int)))) (blkOk_by (by change blkC N_law (defScope s_law) _ _ = true; decide +kernel)) (by decide) (fun _ _ _ _ _ => sg_name 13 nd) (fun _ _ _ _ _ => sts_nil) (fun _ _ _ _ _ => se_bin o_mod (se_var 13) (se_var 6)))
    (ss_cons (ss_set 8 (se_bin o_add (se_var 8) (SF.fz (sf_lc [("_law_k", 14)] rfl nd (si_range1 rfl Z_range (sa_cons (se_bin o_mod (se_bin o_div (se_var 7) (se_int)) (se_int)) (sa_nil))) (blkOk_by (by change blkC N_law (defScope s_law) _ _ = true; decide +kernel)) (by decide) (fun _ _ _ _ _ => sg_name 14 nd) (fun _ _ _ _ _ => sts_nil) (fun _ _ _ _ _ => se_bin o_mod (se_bin o_add (se_var 7) (se_bin o_mul (se_bin o_mul (se_int) (se_var 14)) (se_var 14))) (se_var 6))))) nd)
    (ss_cons (ss_if (st_cmp (o_eq (hu_big hr)) (se_var 5) (se_int)) (ss_one (ss_ret (se_and (se_call G_l_refused (hr.mono (by decide)) (takes_of rfl rfl rfl rfl) rfl M_l_refused K_l_refused B_l_refused (sa_cons (se_var 4) (sa_cons (se_var 2) (sa_cons (se_var 3) (sa_cons (se_callT (b_list rfl) rfl Z_list (by decide +kernel) (sa_cons (se_var 8) (sa_nil))) (sa_cons (se_var 6) (sa_nil)))))) (lenA_cons (lenA_cons (lenA_cons (lenA_cons (lenA_cons (lenA_nil))))))) (se_one (se_call G_l_refused (hr.mono (by decide)) (takes_of rfl rfl rfl rfl) rfl M_l_refused K_l_refused B_l_refused (sa_cons (se_var 4) (sa_cons (se_var 2) (sa_cons (se_var 3) (sa_cons (SF.fz (sf_lst (sa_nil))) (sa_cons (se_var 6) (sa_nil)))))) (lenA_cons (lenA_cons (lenA_cons (lenA_cons (lenA_cons (lenA_nil))))))))))) (ss_nil))
    (ss_cons (ss_set 9 (SF.nw (sf_lst (sa_nil))) nd)
    (ss_cons (ss_for (passes_of rfl) rfl (si_seq (se_var 8)) (sg_name 10 nd) (ss_one (ss_if (st_cmp o_lt (se_var 10) (se_bin o_sub (se_var 6) (se_bin o_mod (se_var 6) (se_var 5)))) (ss_one (ss_expr (se_app (se_var 9) (se_call G_l_value (hr.mono (by decide)) (takes_of rfl rfl rfl rfl) rfl M_l_value K_l_value B_l_value (sa_cons (se_var 2) (sa_cons (se_var 3) (sa_cons (se_bin o_mod (se_var 10) (se_var 5)) (sa_nil)))) (lenA_cons (lenA_cons (lenA_cons (lenA_nil)))))))) (ss_nil))))
    (ss_cons (ss_set 11 (SF.nw (sf_list rfl rfl rfl Z_list (se_var 8) (by decide +kernel))) nd)
    (ss_cons (ss_set 12 (se_call G_drawn_values (hr.mono (by decide)) (takes_of rfl rfl rfl rfl) rfl M_drawn_values K_drawn_values B_drawn_values (sa_cons (se_var 4) (sa_cons (se_var 2) (sa_cons (se_var 3) (sa_cons (se_var 11) (sa_cons (se_var 6) (sa_nil)))))) (lenA_cons (lenA_cons (lenA_cons (lenA_cons (lenA_cons (lenA_nil))))))) nd)
    (ss_cons (ss_if (PW.pt (sw_or (st_not (st_val (se_callBr G_l_alike (hr.mono (by decide)) (takes_of rfl rfl rfl rfl) rfl M_l_alike K_l_alike B_l_alike (sa_cons (se_var 12) (sa_cons (se_var 9) (sa_nil))) (lenA_cons (lenA_cons (lenA_nil)))))) (sw_or1 (st_cmp (o_ne (hu_big hr)) (se_var 11) (se_var 8))))) (ss_one (ss_ret (se_bl))) (ss_nil))
    (ss_cons (ss_expr (se_app (se_var 12) (se_int)))
    (ss_cons (ss_expr (se_app (se_var 11) (se_int)))
    (ss_cons (ss_if (st_cmp (o_ne (hu_big hr)) (se_call G_drawn_values (hr.mono (by decide)) (takes_of rfl rfl rfl rfl) rfl M_drawn_values K_drawn_values B_drawn_values (sa_cons (se_var 4) (sa_cons (se_var 2) (sa_cons (se_var 3) (sa_cons (SF.fz (sf_lst (sa_nil))) (sa_cons (se_var 6) (sa_nil)))))) (lenA_cons (lenA_cons (lenA_cons (lenA_cons (lenA_cons (lenA_nil))))))) (SF.fz (sf_lst (sa_nil)))) (ss_one (ss_ret (se_bl))) (ss_nil))
    (ss_one (ss_ret (se_callBr G_l_alike (hr.mono (by decide)) (takes_of rfl rfl rfl rfl) rfl M_l_alike K_l_alike B_l_alike (sa_cons (se_call G_drawn_values (hr.mono (by decide)) (takes_of rfl rfl rfl rfl) rfl M_drawn_values K_drawn_values B_drawn_values (sa_cons (se_var 4) (sa_cons (se_var 2) (sa_cons (se_var 3) (sa_cons (se_var 8) (sa_cons (se_var 6) (sa_nil)))))) (lenA_cons (lenA_cons (lenA_cons (lenA_cons (lenA_cons (lenA_nil))))))) (sa_cons (se_var 9) (sa_nil))) (lenA_cons (lenA_cons (lenA_nil)))))))))))))))))))))))))
end
def ctOf (c_NoDraw c_CountError c_NoNumber c_TooMany c_Maker c_WholeMaker c_TextMaker c_RowMaker c_ManyMaker c_RisingMaker c_UnlikeMaker c_AlikeMaker c_PickMaker c_UseMaker c_Tables : Addr) : String → Addr := fun s => if s = "NoDraw" then c_NoDraw else if s = "CountError" then c_CountError else if s = "NoNumber" then c_NoNumber else if s = "TooMany" then c_TooMany else if s = "Maker" then c_Maker else if s = "WholeMaker" then c_WholeMaker else if s = "TextMaker" then c_TextMaker else if s = "RowMaker" then c_RowMaker else if s = "ManyMaker" then c_ManyMaker else if s = "RisingMaker" then c_RisingMaker else if s = "UnlikeMaker" then c_UnlikeMaker else if s = "AlikeMaker" then c_AlikeMaker else if s = "PickMaker" then c_PickMaker else if s = "UseMaker" then c_UseMaker else if s = "Tables" then c_Tables else 0
set_option maxHeartbeats 4000000 in
theorem all_mk {l : PySem.W.OpenLaw} {w : World} {K : PySem.W.Frag} {h : Heap} {mg : Str → Option Value} {fa : Addr} (X : K.In h) (G : h.Ns mainGlobals mg) (hfa : mg "law" = some (.ref fa))
    {c_Maker c_WholeMaker c_TextMaker c_RowMaker c_ManyMaker c_RisingMaker c_UnlikeMaker c_AlikeMaker c_PickMaker c_UseMaker c_Tables : Addr}
    {c_NoDraw c_CountError c_NoNumber c_TooMany : Addr}
    {a_l_alike : Addr} {od0 an0 : Option Addr} {sl0 : Array (Option Value)} {oc0 kV0 dc0 pm0 cd0 ct0 : Value}
    {a_l_cell_at : Addr} {od1 an1 : Option Addr} {sl1 : Array (Option Value)} {oc1 kV1 dc1 pm1 cd1 ct1 : Value}
    {a_l_count : Addr} {od2 an2 : Option Addr} {sl2 : Array (Option Value)} {oc2 kV2 dc2 pm2 cd2 ct2 : Value}
    {a_Maker___init__ : Addr} {od3 an3 : Option Addr} {sl3 : Array (Option Value)} {oc3 kV3 dc3 pm3 cd3 ct3 : Value}
    {a_AlikeMaker___init__ : Addr} {od4 an4 : Option Addr} {sl4 : Array (Option Value)} {oc4 kV4 dc4 pm4 cd4 ct4 : Value}
    {a_PickMaker___init__ : Addr} {od5 an5 : Option Addr} {sl5 : Array (Option Value)} {oc5 kV5 dc5 pm5 cd5 ct5 : Value}
    {a_RisingMaker___init__ : Addr} {od6 an6 : Option Addr} {sl6 : Array (Option Value)} {oc6 kV6 dc6 pm6 cd6 ct6 : Value}
    {a_RowMaker___init__ : Addr} {od7 an7 : Option Addr} {sl7 : Array (Option Value)} {oc7 kV7 dc7 pm7 cd7 ct7 : Value}
    {a_TextMaker___init__ : Addr} {od8 an8 : Option Addr} {sl8 : Array (Option Value)} {oc8 kV8 dc8 pm8 cd8 ct8 : Value}
    {a_UseMaker___init__ : Addr} {od9 an9 : Option Addr} {sl9 : Array (Option Value)} {oc9 kV9 dc9 pm9 cd9 ct9 : Value}
    {a_WholeMaker___init__ : Addr} {od10 an10 : Option Addr} {sl10 : Array (Option Value)} {oc10 kV10 dc10 pm10 cd10 ct10 : Value}
    {a_maker_of : Addr} {od11 an11 : Option Addr} {sl11 : Array (Option Value)} {oc11 kV11 dc11 pm11 cd11 ct11 : Value}
    {a_Tables___init__ : Addr} {od12 an12 : Option Addr} {sl12 : Array (Option Value)} {oc12 kV12 dc12 pm12 cd12 ct12 : Value}
    {a_Tables_counts_at : Addr} {od13 an13 : Option Addr} {sl13 : Array (Option Value)} {oc13 kV13 dc13 pm13 cd13 ct13 : Value}
    {a_AlikeMaker_next_count : Addr} {od14 an14 : Option Addr} {sl14 : Array (Option Value)} {oc14 kV14 dc14 pm14 cd14 ct14 : Value}
    {a_ManyMaker_next_count : Addr} {od15 an15 : Option Addr} {sl15 : Array (Option Value)} {oc15 kV15 dc15 pm15 cd15 ct15 : Value}
    {a_PickMaker_next_count : Addr} {od16 an16 : Option Addr} {sl16 : Array (Option Value)} {oc16 kV16 dc16 pm16 cd16 ct16 : Value}
    {a_RisingMaker_beyond : Addr} {od17 an17 : Option Addr} {sl17 : Array (Option Value)} {oc17 kV17 dc17 pm17 cd17 ct17 : Value}
    {a_sets_among : Addr} {od18 an18 : Option Addr} {sl18 : Array (Option Value)} {oc18 kV18 dc18 pm18 cd18 ct18 : Value}
    {a_bags_among : Addr} {od19 an19 : Option Addr} {sl19 : Array (Option Value)} {oc19 kV19 dc19 pm19 cd19 ct19 : Value}
    {a_RisingMaker_among : Addr} {od20 an20 : Option Addr} {sl20 : Array (Option Value)} {oc20 kV20 dc20 pm20 cd20 ct20 : Value}
    {a_UnlikeMaker_among : Addr} {od21 an21 : Option Addr} {sl21 : Array (Option Value)} {oc21 kV21 dc21 pm21 cd21 ct21 : Value}
    {a_RisingMaker_block : Addr} {od22 an22 : Option Addr} {sl22 : Array (Option Value)} {oc22 kV22 dc22 pm22 cd22 ct22 : Value}
    {a_RisingMaker_next_count : Addr} {od23 an23 : Option Addr} {sl23 : Array (Option Value)} {oc23 kV23 dc23 pm23 cd23 ct23 : Value}
    {a_RowMaker_next_count : Addr} {od24 an24 : Option Addr} {sl24 : Array (Option Value)} {oc24 kV24 dc24 pm24 cd24 ct24 : Value}
    {a_TextMaker_next_count : Addr} {od25 an25 : Option Addr} {sl25 : Array (Option Value)} {oc25 kV25 dc25 pm25 cd25 ct25 : Value}
    {a_UseMaker_next_count : Addr} {od26 an26 : Option Addr} {sl26 : Array (Option Value)} {oc26 kV26 dc26 pm26 cd26 ct26 : Value}
    {a_WholeMaker_next_count : Addr} {od27 an27 : Option Addr} {sl27 : Array (Option Value)} {oc27 kV27 dc27 pm27 cd27 ct27 : Value}
    {a_Maker_grow : Addr} {od28 an28 : Option Addr} {sl28 : Array (Option Value)} {oc28 kV28 dc28 pm28 cd28 ct28 : Value}
    {a_Tables_grow_to : Addr} {od29 an29 : Option Addr} {sl29 : Array (Option Value)} {oc29 kV29 dc29 pm29 cd29 ct29 : Value}
    {a_greatest_below : Addr} {od30 an30 : Option Addr} {sl30 : Array (Option Value)} {oc30 kV30 dc30 pm30 cd30 ct30 : Value}
    {a_set_at : Addr} {od31 an31 : Option Addr} {sl31 : Array (Option Value)} {oc31 kV31 dc31 pm31 cd31 ct31 : Value}
    {a_bag_at : Addr} {od32 an32 : Option Addr} {sl32 : Array (Option Value)} {oc32 kV32 dc32 pm32 cd32 ct32 : Value}
    {a_RisingMaker_chosen_at : Addr} {od33 an33 : Option Addr} {sl33 : Array (Option Value)} {oc33 kV33 dc33 pm33 cd33 ct33 : Value}
    {a_TextMaker_told : Addr} {od34 an34 : Option Addr} {sl34 : Array (Option Value)} {oc34 kV34 dc34 pm34 cd34 ct34 : Value}
    {a_WholeMaker_told : Addr} {od35 an35 : Option Addr} {sl35 : Array (Option Value)} {oc35 kV35 dc35 pm35 cd35 ct35 : Value}
    {a_first_taken : Addr} {od36 an36 : Option Addr} {sl36 : Array (Option Value)} {oc36 kV36 dc36 pm36 cd36 ct36 : Value}
    {a_UnlikeMaker_chosen_at : Addr} {od37 an37 : Option Addr} {sl37 : Array (Option Value)} {oc37 kV37 dc37 pm37 cd37 ct37 : Value}
    {a_UseMaker_told : Addr} {od38 an38 : Option Addr} {sl38 : Array (Option Value)} {oc38 kV38 dc38 pm38 cd38 ct38 : Value}
    {a_RowMaker_told : Addr} {od39 an39 : Option Addr} {sl39 : Array (Option Value)} {oc39 kV39 dc39 pm39 cd39 ct39 : Value}
    {a_RisingMaker_told : Addr} {od40 an40 : Option Addr} {sl40 : Array (Option Value)} {oc40 kV40 dc40 pm40 cd40 ct40 : Value}
    {a_PickMaker_told : Addr} {od41 an41 : Option Addr} {sl41 : Array (Option Value)} {oc41 kV41 dc41 pm41 cd41 ct41 : Value}
    {a_ManyMaker_told : Addr} {od42 an42 : Option Addr} {sl42 : Array (Option Value)} {oc42 kV42 dc42 pm42 cd42 ct42 : Value}
    {a_AlikeMaker_told : Addr} {od43 an43 : Option Addr} {sl43 : Array (Option Value)} {oc43 kV43 dc43 pm43 cd43 ct43 : Value}
    {a_Tables_told : Addr} {od44 an44 : Option Addr} {sl44 : Array (Option Value)} {oc44 kV44 dc44 pm44 cd44 ct44 : Value}
    {a_fair : Addr} {od45 an45 : Option Addr} {sl45 : Array (Option Value)} {oc45 kV45 dc45 pm45 cd45 ct45 : Value}
    {a_drawn_values : Addr} {od46 an46 : Option Addr} {sl46 : Array (Option Value)} {oc46 kV46 dc46 pm46 cd46 ct46 : Value}
    {a_l_refused : Addr} {od47 an47 : Option Addr} {sl47 : Array (Option Value)} {oc47 kV47 dc47 pm47 cd47 ct47 : Value}
    {a_l_signs : Addr} {od48 an48 : Option Addr} {sl48 : Array (Option Value)} {oc48 kV48 dc48 pm48 cd48 ct48 : Value}
    {a_l_value : Addr} {od49 an49 : Option Addr} {sl49 : Array (Option Value)} {oc49 kV49 dc49 pm49 cd49 ct49 : Value}
    {a_law : Addr} {od50 an50 : Option Addr} {sl50 : Array (Option Value)} {oc50 kV50 dc50 pm50 cd50 ct50 : Value}
    (N_0 : PySem.W.nsIn K mainGlobals "_law_alike" = some (some (.ref a_l_alike)))
    (L_0 : K.lookup a_l_alike = some ⟨oc0, od0, .func (PySem.W.fnOf "_law_alike" "_law_alike" (defArgs s_l_alike) (defBody s_l_alike) (defScope s_l_alike) .none kV0 dc0 pm0 an0 cd0 ct0), sl0⟩)
    (C_0 : PySem.W.codeIn K cd0 "_law_alike" = true)
    (K_l_alike : PySem.W.keepIn K (.ref a_l_alike) = true)
    (N_1 : PySem.W.nsIn K mainGlobals "_law_cell_at" = some (some (.ref a_l_cell_at)))
    (L_1 : K.lookup a_l_cell_at = some ⟨oc1, od1, .func (PySem.W.fnOf "_law_cell_at" "_law_cell_at" (defArgs s_l_cell_at) (defBody s_l_cell_at) (defScope s_l_cell_at) .none kV1 dc1 pm1 an1 cd1 ct1), sl1⟩)
    (C_1 : PySem.W.codeIn K cd1 "_law_cell_at" = true)
    (K_l_cell_at : PySem.W.keepIn K (.ref a_l_cell_at) = true)
    (N_2 : PySem.W.nsIn K mainGlobals "_law_count" = some (some (.ref a_l_count)))
    (L_2 : K.lookup a_l_count = some ⟨oc2, od2, .func (PySem.W.fnOf "_law_count" "_law_count" (defArgs s_l_count) (defBody s_l_count) (defScope s_l_count) .none kV2 dc2 pm2 an2 cd2 ct2), sl2⟩)
    (C_2 : PySem.W.codeIn K cd2 "_law_count" = true)
    (K_l_count : PySem.W.keepIn K (.ref a_l_count) = true)
    (L_3 : K.lookup a_Maker___init__ = some ⟨oc3, od3, .func (PySem.W.fnOf "__init__" "Maker.__init__" (defArgs s_Maker___init__) (defBody s_Maker___init__) (defScope s_Maker___init__) .none kV3 dc3 pm3 an3 cd3 ct3), sl3⟩)
    (C_3 : PySem.W.codeIn K cd3 "Maker.__init__" = true)
    (K_Maker___init__ : PySem.W.keepIn K (.ref a_Maker___init__) = true)
    (L_4 : K.lookup a_AlikeMaker___init__ = some ⟨oc4, od4, .func (PySem.W.fnOf "__init__" "AlikeMaker.__init__" (defArgs s_AlikeMaker___init__) (defBody s_AlikeMaker___init__) (defScope s_AlikeMaker___init__) .none kV4 dc4 pm4 an4 cd4 ct4), sl4⟩)
    (C_4 : PySem.W.codeIn K cd4 "AlikeMaker.__init__" = true)
    (K_AlikeMaker___init__ : PySem.W.keepIn K (.ref a_AlikeMaker___init__) = true)
    (L_5 : K.lookup a_PickMaker___init__ = some ⟨oc5, od5, .func (PySem.W.fnOf "__init__" "PickMaker.__init__" (defArgs s_PickMaker___init__) (defBody s_PickMaker___init__) (defScope s_PickMaker___init__) .none kV5 dc5 pm5 an5 cd5 ct5), sl5⟩)
    (C_5 : PySem.W.codeIn K cd5 "PickMaker.__init__" = true)
    (K_PickMaker___init__ : PySem.W.keepIn K (.ref a_PickMaker___init__) = true)
    (L_6 : K.lookup a_RisingMaker___init__ = some ⟨oc6, od6, .func (PySem.W.fnOf "__init__" "RisingMaker.__init__" (defArgs s_RisingMaker___init__) (defBody s_RisingMaker___init__) (defScope s_RisingMaker___init__) .none kV6 dc6 pm6 an6 cd6 ct6), sl6⟩)
    (C_6 : PySem.W.codeIn K cd6 "RisingMaker.__init__" = true)
    (K_RisingMaker___init__ : PySem.W.keepIn K (.ref a_RisingMaker___init__) = true)
    (L_7 : K.lookup a_RowMaker___init__ = some ⟨oc7, od7, .func (PySem.W.fnOf "__init__" "RowMaker.__init__" (defArgs s_RowMaker___init__) (defBody s_RowMaker___init__) (defScope s_RowMaker___init__) .none kV7 dc7 pm7 an7 cd7 ct7), sl7⟩)
    (C_7 : PySem.W.codeIn K cd7 "RowMaker.__init__" = true)
    (K_RowMaker___init__ : PySem.W.keepIn K (.ref a_RowMaker___init__) = true)
    (L_8 : K.lookup a_TextMaker___init__ = some ⟨oc8, od8, .func (PySem.W.fnOf "__init__" "TextMaker.__init__" (defArgs s_TextMaker___init__) (defBody s_TextMaker___init__) (defScope s_TextMaker___init__) .none kV8 dc8 pm8 an8 cd8 ct8), sl8⟩)
    (C_8 : PySem.W.codeIn K cd8 "TextMaker.__init__" = true)
    (K_TextMaker___init__ : PySem.W.keepIn K (.ref a_TextMaker___init__) = true)
    (L_9 : K.lookup a_UseMaker___init__ = some ⟨oc9, od9, .func (PySem.W.fnOf "__init__" "UseMaker.__init__" (defArgs s_UseMaker___init__) (defBody s_UseMaker___init__) (defScope s_UseMaker___init__) .none kV9 dc9 pm9 an9 cd9 ct9), sl9⟩)
    (C_9 : PySem.W.codeIn K cd9 "UseMaker.__init__" = true)
    (K_UseMaker___init__ : PySem.W.keepIn K (.ref a_UseMaker___init__) = true)
    (L_10 : K.lookup a_WholeMaker___init__ = some ⟨oc10, od10, .func (PySem.W.fnOf "__init__" "WholeMaker.__init__" (defArgs s_WholeMaker___init__) (defBody s_WholeMaker___init__) (defScope s_WholeMaker___init__) .none kV10 dc10 pm10 an10 cd10 ct10), sl10⟩)
    (C_10 : PySem.W.codeIn K cd10 "WholeMaker.__init__" = true)
    (K_WholeMaker___init__ : PySem.W.keepIn K (.ref a_WholeMaker___init__) = true)
    (N_11 : PySem.W.nsIn K mainGlobals "maker_of" = some (some (.ref a_maker_of)))
    (L_11 : K.lookup a_maker_of = some ⟨oc11, od11, .func (PySem.W.fnOf "maker_of" "maker_of" (defArgs s_maker_of) (defBody s_maker_of) (defScope s_maker_of) .none kV11 dc11 pm11 an11 cd11 ct11), sl11⟩)
    (C_11 : PySem.W.codeIn K cd11 "maker_of" = true)
    (K_maker_of : PySem.W.keepIn K (.ref a_maker_of) = true)
    (L_12 : K.lookup a_Tables___init__ = some ⟨oc12, od12, .func (PySem.W.fnOf "__init__" "Tables.__init__" (defArgs s_Tables___init__) (defBody s_Tables___init__) (defScope s_Tables___init__) .none kV12 dc12 pm12 an12 cd12 ct12), sl12⟩)
    (C_12 : PySem.W.codeIn K cd12 "Tables.__init__" = true)
    (K_Tables___init__ : PySem.W.keepIn K (.ref a_Tables___init__) = true)
    (L_13 : K.lookup a_Tables_counts_at = some ⟨oc13, od13, .func (PySem.W.fnOf "counts_at" "Tables.counts_at" (defArgs s_Tables_counts_at) (defBody s_Tables_counts_at) (defScope s_Tables_counts_at) .none kV13 dc13 pm13 an13 cd13 ct13), sl13⟩)
    (C_13 : PySem.W.codeIn K cd13 "Tables.counts_at" = true)
    (K_Tables_counts_at : PySem.W.keepIn K (.ref a_Tables_counts_at) = true)
    (L_14 : K.lookup a_AlikeMaker_next_count = some ⟨oc14, od14, .func (PySem.W.fnOf "next_count" "AlikeMaker.next_count" (defArgs s_AlikeMaker_next_count) (defBody s_AlikeMaker_next_count) (defScope s_AlikeMaker_next_count) .none kV14 dc14 pm14 an14 cd14 ct14), sl14⟩)
    (C_14 : PySem.W.codeIn K cd14 "AlikeMaker.next_count" = true)
    (K_AlikeMaker_next_count : PySem.W.keepIn K (.ref a_AlikeMaker_next_count) = true)
    (L_15 : K.lookup a_ManyMaker_next_count = some ⟨oc15, od15, .func (PySem.W.fnOf "next_count" "ManyMaker.next_count" (defArgs s_ManyMaker_next_count) (defBody s_ManyMaker_next_count) (defScope s_ManyMaker_next_count) .none kV15 dc15 pm15 an15 cd15 ct15), sl15⟩)
    (C_15 : PySem.W.codeIn K cd15 "ManyMaker.next_count" = true)
    (K_ManyMaker_next_count : PySem.W.keepIn K (.ref a_ManyMaker_next_count) = true)
    (L_16 : K.lookup a_PickMaker_next_count = some ⟨oc16, od16, .func (PySem.W.fnOf "next_count" "PickMaker.next_count" (defArgs s_PickMaker_next_count) (defBody s_PickMaker_next_count) (defScope s_PickMaker_next_count) .none kV16 dc16 pm16 an16 cd16 ct16), sl16⟩)
    (C_16 : PySem.W.codeIn K cd16 "PickMaker.next_count" = true)
    (K_PickMaker_next_count : PySem.W.keepIn K (.ref a_PickMaker_next_count) = true)
    (L_17 : K.lookup a_RisingMaker_beyond = some ⟨oc17, od17, .func (PySem.W.fnOf "beyond" "RisingMaker.beyond" (defArgs s_RisingMaker_beyond) (defBody s_RisingMaker_beyond) (defScope s_RisingMaker_beyond) .none kV17 dc17 pm17 an17 cd17 ct17), sl17⟩)
    (C_17 : PySem.W.codeIn K cd17 "RisingMaker.beyond" = true)
    (K_RisingMaker_beyond : PySem.W.keepIn K (.ref a_RisingMaker_beyond) = true)
    (N_18 : PySem.W.nsIn K mainGlobals "sets_among" = some (some (.ref a_sets_among)))
    (L_18 : K.lookup a_sets_among = some ⟨oc18, od18, .func (PySem.W.fnOf "sets_among" "sets_among" (defArgs s_sets_among) (defBody s_sets_among) (defScope s_sets_among) .none kV18 dc18 pm18 an18 cd18 ct18), sl18⟩)
    (C_18 : PySem.W.codeIn K cd18 "sets_among" = true)
    (K_sets_among : PySem.W.keepIn K (.ref a_sets_among) = true)
    (N_19 : PySem.W.nsIn K mainGlobals "bags_among" = some (some (.ref a_bags_among)))
    (L_19 : K.lookup a_bags_among = some ⟨oc19, od19, .func (PySem.W.fnOf "bags_among" "bags_among" (defArgs s_bags_among) (defBody s_bags_among) (defScope s_bags_among) .none kV19 dc19 pm19 an19 cd19 ct19), sl19⟩)
    (C_19 : PySem.W.codeIn K cd19 "bags_among" = true)
    (K_bags_among : PySem.W.keepIn K (.ref a_bags_among) = true)
    (L_20 : K.lookup a_RisingMaker_among = some ⟨oc20, od20, .func (PySem.W.fnOf "among" "RisingMaker.among" (defArgs s_RisingMaker_among) (defBody s_RisingMaker_among) (defScope s_RisingMaker_among) .none kV20 dc20 pm20 an20 cd20 ct20), sl20⟩)
    (C_20 : PySem.W.codeIn K cd20 "RisingMaker.among" = true)
    (K_RisingMaker_among : PySem.W.keepIn K (.ref a_RisingMaker_among) = true)
    (L_21 : K.lookup a_UnlikeMaker_among = some ⟨oc21, od21, .func (PySem.W.fnOf "among" "UnlikeMaker.among" (defArgs s_UnlikeMaker_among) (defBody s_UnlikeMaker_among) (defScope s_UnlikeMaker_among) .none kV21 dc21 pm21 an21 cd21 ct21), sl21⟩)
    (C_21 : PySem.W.codeIn K cd21 "UnlikeMaker.among" = true)
    (K_UnlikeMaker_among : PySem.W.keepIn K (.ref a_UnlikeMaker_among) = true)
    (L_22 : K.lookup a_RisingMaker_block = some ⟨oc22, od22, .func (PySem.W.fnOf "block" "RisingMaker.block" (defArgs s_RisingMaker_block) (defBody s_RisingMaker_block) (defScope s_RisingMaker_block) .none kV22 dc22 pm22 an22 cd22 ct22), sl22⟩)
    (C_22 : PySem.W.codeIn K cd22 "RisingMaker.block" = true)
    (K_RisingMaker_block : PySem.W.keepIn K (.ref a_RisingMaker_block) = true)
    (L_23 : K.lookup a_RisingMaker_next_count = some ⟨oc23, od23, .func (PySem.W.fnOf "next_count" "RisingMaker.next_count" (defArgs s_RisingMaker_next_count) (defBody s_RisingMaker_next_count) (defScope s_RisingMaker_next_count) .none kV23 dc23 pm23 an23 cd23 ct23), sl23⟩)
    (C_23 : PySem.W.codeIn K cd23 "RisingMaker.next_count" = true)
    (K_RisingMaker_next_count : PySem.W.keepIn K (.ref a_RisingMaker_next_count) = true)
    (L_24 : K.lookup a_RowMaker_next_count = some ⟨oc24, od24, .func (PySem.W.fnOf "next_count" "RowMaker.next_count" (defArgs s_RowMaker_next_count) (defBody s_RowMaker_next_count) (defScope s_RowMaker_next_count) .none kV24 dc24 pm24 an24 cd24 ct24), sl24⟩)
    (C_24 : PySem.W.codeIn K cd24 "RowMaker.next_count" = true)
    (K_RowMaker_next_count : PySem.W.keepIn K (.ref a_RowMaker_next_count) = true)
    (L_25 : K.lookup a_TextMaker_next_count = some ⟨oc25, od25, .func (PySem.W.fnOf "next_count" "TextMaker.next_count" (defArgs s_TextMaker_next_count) (defBody s_TextMaker_next_count) (defScope s_TextMaker_next_count) .none kV25 dc25 pm25 an25 cd25 ct25), sl25⟩)
    (C_25 : PySem.W.codeIn K cd25 "TextMaker.next_count" = true)
    (K_TextMaker_next_count : PySem.W.keepIn K (.ref a_TextMaker_next_count) = true)
    (L_26 : K.lookup a_UseMaker_next_count = some ⟨oc26, od26, .func (PySem.W.fnOf "next_count" "UseMaker.next_count" (defArgs s_UseMaker_next_count) (defBody s_UseMaker_next_count) (defScope s_UseMaker_next_count) .none kV26 dc26 pm26 an26 cd26 ct26), sl26⟩)
    (C_26 : PySem.W.codeIn K cd26 "UseMaker.next_count" = true)
    (K_UseMaker_next_count : PySem.W.keepIn K (.ref a_UseMaker_next_count) = true)
    (L_27 : K.lookup a_WholeMaker_next_count = some ⟨oc27, od27, .func (PySem.W.fnOf "next_count" "WholeMaker.next_count" (defArgs s_WholeMaker_next_count) (defBody s_WholeMaker_next_count) (defScope s_WholeMaker_next_count) .none kV27 dc27 pm27 an27 cd27 ct27), sl27⟩)
    (C_27 : PySem.W.codeIn K cd27 "WholeMaker.next_count" = true)
    (K_WholeMaker_next_count : PySem.W.keepIn K (.ref a_WholeMaker_next_count) = true)
    (L_28 : K.lookup a_Maker_grow = some ⟨oc28, od28, .func (PySem.W.fnOf "grow" "Maker.grow" (defArgs s_Maker_grow) (defBody s_Maker_grow) (defScope s_Maker_grow) .none kV28 dc28 pm28 an28 cd28 ct28), sl28⟩)
    (C_28 : PySem.W.codeIn K cd28 "Maker.grow" = true)
    (K_Maker_grow : PySem.W.keepIn K (.ref a_Maker_grow) = true)
    (L_29 : K.lookup a_Tables_grow_to = some ⟨oc29, od29, .func (PySem.W.fnOf "grow_to" "Tables.grow_to" (defArgs s_Tables_grow_to) (defBody s_Tables_grow_to) (defScope s_Tables_grow_to) .none kV29 dc29 pm29 an29 cd29 ct29), sl29⟩)
    (C_29 : PySem.W.codeIn K cd29 "Tables.grow_to" = true)
    (K_Tables_grow_to : PySem.W.keepIn K (.ref a_Tables_grow_to) = true)
    (N_30 : PySem.W.nsIn K mainGlobals "greatest_below" = some (some (.ref a_greatest_below)))
    (L_30 : K.lookup a_greatest_below = some ⟨oc30, od30, .func (PySem.W.fnOf "greatest_below" "greatest_below" (defArgs s_greatest_below) (defBody s_greatest_below) (defScope s_greatest_below) .none kV30 dc30 pm30 an30 cd30 ct30), sl30⟩)
    (C_30 : PySem.W.codeIn K cd30 "greatest_below" = true)
    (K_greatest_below : PySem.W.keepIn K (.ref a_greatest_below) = true)
    (N_31 : PySem.W.nsIn K mainGlobals "set_at" = some (some (.ref a_set_at)))
    (L_31 : K.lookup a_set_at = some ⟨oc31, od31, .func (PySem.W.fnOf "set_at" "set_at" (defArgs s_set_at) (defBody s_set_at) (defScope s_set_at) .none kV31 dc31 pm31 an31 cd31 ct31), sl31⟩)
    (C_31 : PySem.W.codeIn K cd31 "set_at" = true)
    (K_set_at : PySem.W.keepIn K (.ref a_set_at) = true)
    (N_32 : PySem.W.nsIn K mainGlobals "bag_at" = some (some (.ref a_bag_at)))
    (L_32 : K.lookup a_bag_at = some ⟨oc32, od32, .func (PySem.W.fnOf "bag_at" "bag_at" (defArgs s_bag_at) (defBody s_bag_at) (defScope s_bag_at) .none kV32 dc32 pm32 an32 cd32 ct32), sl32⟩)
    (C_32 : PySem.W.codeIn K cd32 "bag_at" = true)
    (K_bag_at : PySem.W.keepIn K (.ref a_bag_at) = true)
    (L_33 : K.lookup a_RisingMaker_chosen_at = some ⟨oc33, od33, .func (PySem.W.fnOf "chosen_at" "RisingMaker.chosen_at" (defArgs s_RisingMaker_chosen_at) (defBody s_RisingMaker_chosen_at) (defScope s_RisingMaker_chosen_at) .none kV33 dc33 pm33 an33 cd33 ct33), sl33⟩)
    (C_33 : PySem.W.codeIn K cd33 "RisingMaker.chosen_at" = true)
    (K_RisingMaker_chosen_at : PySem.W.keepIn K (.ref a_RisingMaker_chosen_at) = true)
    (L_34 : K.lookup a_TextMaker_told = some ⟨oc34, od34, .func (PySem.W.fnOf "told" "TextMaker.told" (defArgs s_TextMaker_told) (defBody s_TextMaker_told) (defScope s_TextMaker_told) .none kV34 dc34 pm34 an34 cd34 ct34), sl34⟩)
    (C_34 : PySem.W.codeIn K cd34 "TextMaker.told" = true)
    (K_TextMaker_told : PySem.W.keepIn K (.ref a_TextMaker_told) = true)
    (L_35 : K.lookup a_WholeMaker_told = some ⟨oc35, od35, .func (PySem.W.fnOf "told" "WholeMaker.told" (defArgs s_WholeMaker_told) (defBody s_WholeMaker_told) (defScope s_WholeMaker_told) .none kV35 dc35 pm35 an35 cd35 ct35), sl35⟩)
    (C_35 : PySem.W.codeIn K cd35 "WholeMaker.told" = true)
    (K_WholeMaker_told : PySem.W.keepIn K (.ref a_WholeMaker_told) = true)
    (N_36 : PySem.W.nsIn K mainGlobals "first_taken" = some (some (.ref a_first_taken)))
    (L_36 : K.lookup a_first_taken = some ⟨oc36, od36, .func (PySem.W.fnOf "first_taken" "first_taken" (defArgs s_first_taken) (defBody s_first_taken) (defScope s_first_taken) .none kV36 dc36 pm36 an36 cd36 ct36), sl36⟩)
    (C_36 : PySem.W.codeIn K cd36 "first_taken" = true)
    (K_first_taken : PySem.W.keepIn K (.ref a_first_taken) = true)
    (L_37 : K.lookup a_UnlikeMaker_chosen_at = some ⟨oc37, od37, .func (PySem.W.fnOf "chosen_at" "UnlikeMaker.chosen_at" (defArgs s_UnlikeMaker_chosen_at) (defBody s_UnlikeMaker_chosen_at) (defScope s_UnlikeMaker_chosen_at) .none kV37 dc37 pm37 an37 cd37 ct37), sl37⟩)
    (C_37 : PySem.W.codeIn K cd37 "UnlikeMaker.chosen_at" = true)
    (K_UnlikeMaker_chosen_at : PySem.W.keepIn K (.ref a_UnlikeMaker_chosen_at) = true)
    (L_38 : K.lookup a_UseMaker_told = some ⟨oc38, od38, .func (PySem.W.fnOf "told" "UseMaker.told" (defArgs s_UseMaker_told) (defBody s_UseMaker_told) (defScope s_UseMaker_told) .none kV38 dc38 pm38 an38 cd38 ct38), sl38⟩)
    (C_38 : PySem.W.codeIn K cd38 "UseMaker.told" = true)
    (K_UseMaker_told : PySem.W.keepIn K (.ref a_UseMaker_told) = true)
    (L_39 : K.lookup a_RowMaker_told = some ⟨oc39, od39, .func (PySem.W.fnOf "told" "RowMaker.told" (defArgs s_RowMaker_told) (defBody s_RowMaker_told) (defScope s_RowMaker_told) .none kV39 dc39 pm39 an39 cd39 ct39), sl39⟩)
    (C_39 : PySem.W.codeIn K cd39 "RowMaker.told" = true)
    (K_RowMaker_told : PySem.W.keepIn K (.ref a_RowMaker_told) = true)
    (L_40 : K.lookup a_RisingMaker_told = some ⟨oc40, od40, .func (PySem.W.fnOf "told" "RisingMaker.told" (defArgs s_RisingMaker_told) (defBody s_RisingMaker_told) (defScope s_RisingMaker_told) .none kV40 dc40 pm40 an40 cd40 ct40), sl40⟩)
    (C_40 : PySem.W.codeIn K cd40 "RisingMaker.told" = true)
    (K_RisingMaker_told : PySem.W.keepIn K (.ref a_RisingMaker_told) = true)
    (L_41 : K.lookup a_PickMaker_told = some ⟨oc41, od41, .func (PySem.W.fnOf "told" "PickMaker.told" (defArgs s_PickMaker_told) (defBody s_PickMaker_told) (defScope s_PickMaker_told) .none kV41 dc41 pm41 an41 cd41 ct41), sl41⟩)
    (C_41 : PySem.W.codeIn K cd41 "PickMaker.told" = true)
    (K_PickMaker_told : PySem.W.keepIn K (.ref a_PickMaker_told) = true)
    (L_42 : K.lookup a_ManyMaker_told = some ⟨oc42, od42, .func (PySem.W.fnOf "told" "ManyMaker.told" (defArgs s_ManyMaker_told) (defBody s_ManyMaker_told) (defScope s_ManyMaker_told) .none kV42 dc42 pm42 an42 cd42 ct42), sl42⟩)
    (C_42 : PySem.W.codeIn K cd42 "ManyMaker.told" = true)
    (K_ManyMaker_told : PySem.W.keepIn K (.ref a_ManyMaker_told) = true)
    (L_43 : K.lookup a_AlikeMaker_told = some ⟨oc43, od43, .func (PySem.W.fnOf "told" "AlikeMaker.told" (defArgs s_AlikeMaker_told) (defBody s_AlikeMaker_told) (defScope s_AlikeMaker_told) .none kV43 dc43 pm43 an43 cd43 ct43), sl43⟩)
    (C_43 : PySem.W.codeIn K cd43 "AlikeMaker.told" = true)
    (K_AlikeMaker_told : PySem.W.keepIn K (.ref a_AlikeMaker_told) = true)
    (L_44 : K.lookup a_Tables_told = some ⟨oc44, od44, .func (PySem.W.fnOf "told" "Tables.told" (defArgs s_Tables_told) (defBody s_Tables_told) (defScope s_Tables_told) .none kV44 dc44 pm44 an44 cd44 ct44), sl44⟩)
    (C_44 : PySem.W.codeIn K cd44 "Tables.told" = true)
    (K_Tables_told : PySem.W.keepIn K (.ref a_Tables_told) = true)
    (N_45 : PySem.W.nsIn K mainGlobals "fair" = some (some (.ref a_fair)))
    (L_45 : K.lookup a_fair = some ⟨oc45, od45, .func (PySem.W.fnOf "fair" "fair" (defArgs s_fair) (defBody s_fair) (defScope s_fair) .none kV45 dc45 pm45 an45 cd45 ct45), sl45⟩)
    (C_45 : PySem.W.codeIn K cd45 "fair" = true)
    (K_fair : PySem.W.keepIn K (.ref a_fair) = true)
    (N_46 : PySem.W.nsIn K mainGlobals "drawn_values" = some (some (.ref a_drawn_values)))
    (L_46 : K.lookup a_drawn_values = some ⟨oc46, od46, .func (PySem.W.fnOf "drawn_values" "drawn_values" (defArgs s_drawn_values) (defBody s_drawn_values) (defScope s_drawn_values) .none kV46 dc46 pm46 an46 cd46 ct46), sl46⟩)
    (C_46 : PySem.W.codeIn K cd46 "drawn_values" = true)
    (K_drawn_values : PySem.W.keepIn K (.ref a_drawn_values) = true)
    (N_47 : PySem.W.nsIn K mainGlobals "_law_refused" = some (some (.ref a_l_refused)))
    (L_47 : K.lookup a_l_refused = some ⟨oc47, od47, .func (PySem.W.fnOf "_law_refused" "_law_refused" (defArgs s_l_refused) (defBody s_l_refused) (defScope s_l_refused) .none kV47 dc47 pm47 an47 cd47 ct47), sl47⟩)
    (C_47 : PySem.W.codeIn K cd47 "_law_refused" = true)
    (K_l_refused : PySem.W.keepIn K (.ref a_l_refused) = true)
    (N_48 : PySem.W.nsIn K mainGlobals "_law_signs" = some (some (.ref a_l_signs)))
    (L_48 : K.lookup a_l_signs = some ⟨oc48, od48, .func (PySem.W.fnOf "_law_signs" "_law_signs" (defArgs s_l_signs) (defBody s_l_signs) (defScope s_l_signs) .none kV48 dc48 pm48 an48 cd48 ct48), sl48⟩)
    (C_48 : PySem.W.codeIn K cd48 "_law_signs" = true)
    (K_l_signs : PySem.W.keepIn K (.ref a_l_signs) = true)
    (N_49 : PySem.W.nsIn K mainGlobals "_law_value" = some (some (.ref a_l_value)))
    (L_49 : K.lookup a_l_value = some ⟨oc49, od49, .func (PySem.W.fnOf "_law_value" "_law_value" (defArgs s_l_value) (defBody s_l_value) (defScope s_l_value) .none kV49 dc49 pm49 an49 cd49 ct49), sl49⟩)
    (C_49 : PySem.W.codeIn K cd49 "_law_value" = true)
    (K_l_value : PySem.W.keepIn K (.ref a_l_value) = true)
    (N_50 : PySem.W.nsIn K mainGlobals "law" = some (some (.ref a_law)))
    (L_50 : K.lookup a_law = some ⟨oc50, od50, .func (PySem.W.fnOf "law" "law" (defArgs s_law) (defBody s_law) (defScope s_law) .none kV50 dc50 pm50 an50 cd50 ct50), sl50⟩)
    (C_50 : PySem.W.codeIn K cd50 "law" = true)
    (K_law : PySem.W.keepIn K (.ref a_law) = true)
    (Y_ValueError : PySem.W.nsIn K mainGlobals "ValueError" = some none)
    (Y_bool : PySem.W.nsIn K mainGlobals "bool" = some none)
    (Y_divmod : PySem.W.nsIn K mainGlobals "divmod" = some none)
    (Y_enumerate : PySem.W.nsIn K mainGlobals "enumerate" = some none)
    (Y_int : PySem.W.nsIn K mainGlobals "int" = some none)
    (Y_isinstance : PySem.W.nsIn K mainGlobals "isinstance" = some none)
    (Y_len : PySem.W.nsIn K mainGlobals "len" = some none)
    (Y_list : PySem.W.nsIn K mainGlobals "list" = some none)
    (Y_max : PySem.W.nsIn K mainGlobals "max" = some none)
    (Y_min : PySem.W.nsIn K mainGlobals "min" = some none)
    (Y_range : PySem.W.nsIn K mainGlobals "range" = some none)
    (Y_reversed : PySem.W.nsIn K mainGlobals "reversed" = some none)
    (Y_str : PySem.W.nsIn K mainGlobals "str" = some none)
    (Y_sum : PySem.W.nsIn K mainGlobals "sum" = some none)
    (Y_tuple : PySem.W.nsIn K mainGlobals "tuple" = some none)
    (Y_zip : PySem.W.nsIn K mainGlobals "zip" = some none)
    (Cg_CountError : PySem.W.nsIn K mainGlobals "CountError" = some (some (.ref c_CountError)))
    (Cg_NoNumber : PySem.W.nsIn K mainGlobals "NoNumber" = some (some (.ref c_NoNumber)))
    (Cg_TooMany : PySem.W.nsIn K mainGlobals "TooMany" = some (some (.ref c_TooMany)))
    (Cg_NoDraw : PySem.W.nsIn K mainGlobals "NoDraw" = some (some (.ref c_NoDraw)))
    (Ck_NoDraw : PySem.W.keepIn K (.ref c_NoDraw) = true)
    (Cq_NoDraw : PySem.W.excIn K c_NoDraw [.type "ValueError", .type "Exception", .type "BaseException", .type "object"] "ValueError.__new__" = true)
    (Cb_NoDraw : PySem.W.subIn K (.ref c_NoDraw) (.type "BaseException") = some true)
    (Ct_NoDraw : PySem.W.typeIn K (.ref c_NoDraw) = some (.type "type"))
    (Cd_NoDraw : PySem.W.hasDictIn K c_NoDraw = true)
    (Cg_Maker : PySem.W.nsIn K mainGlobals "Maker" = some (some (.ref c_Maker)))
    (Cg_WholeMaker : PySem.W.nsIn K mainGlobals "WholeMaker" = some (some (.ref c_WholeMaker)))
    (Cg_TextMaker : PySem.W.nsIn K mainGlobals "TextMaker" = some (some (.ref c_TextMaker)))
    (Cg_RowMaker : PySem.W.nsIn K mainGlobals "RowMaker" = some (some (.ref c_RowMaker)))
    (Cg_ManyMaker : PySem.W.nsIn K mainGlobals "ManyMaker" = some (some (.ref c_ManyMaker)))
    (Cg_RisingMaker : PySem.W.nsIn K mainGlobals "RisingMaker" = some (some (.ref c_RisingMaker)))
    (Cg_UnlikeMaker : PySem.W.nsIn K mainGlobals "UnlikeMaker" = some (some (.ref c_UnlikeMaker)))
    (Cg_AlikeMaker : PySem.W.nsIn K mainGlobals "AlikeMaker" = some (some (.ref c_AlikeMaker)))
    (Cg_PickMaker : PySem.W.nsIn K mainGlobals "PickMaker" = some (some (.ref c_PickMaker)))
    (Cg_UseMaker : PySem.W.nsIn K mainGlobals "UseMaker" = some (some (.ref c_UseMaker)))
    (Cg_Tables : PySem.W.nsIn K mainGlobals "Tables" = some (some (.ref c_Tables)))
    (Op_WholeMaker : PySem.W.plainGet K c_WholeMaker Str.empty = true)
    (Od_WholeMaker : PySem.W.hasDictIn K c_WholeMaker = true)
    (Oo_WholeMaker : PySem.W.plainOver K c_WholeMaker = true)
    (Os_WholeMaker : PySem.W.findIn K (.ref c_WholeMaker) "__setattr__" = some (some (.builtin "object.__setattr__")))
    (Op_TextMaker : PySem.W.plainGet K c_TextMaker Str.empty = true)
    (Od_TextMaker : PySem.W.hasDictIn K c_TextMaker = true)
    (Oo_TextMaker : PySem.W.plainOver K c_TextMaker = true)
    (Os_TextMaker : PySem.W.findIn K (.ref c_TextMaker) "__setattr__" = some (some (.builtin "object.__setattr__")))
    (Op_RowMaker : PySem.W.plainGet K c_RowMaker Str.empty = true)
    (Od_RowMaker : PySem.W.hasDictIn K c_RowMaker = true)
    (Oo_RowMaker : PySem.W.plainOver K c_RowMaker = true)
    (Os_RowMaker : PySem.W.findIn K (.ref c_RowMaker) "__setattr__" = some (some (.builtin "object.__setattr__")))
    (Op_ManyMaker : PySem.W.plainGet K c_ManyMaker Str.empty = true)
    (Od_ManyMaker : PySem.W.hasDictIn K c_ManyMaker = true)
    (Oo_ManyMaker : PySem.W.plainOver K c_ManyMaker = true)
    (Os_ManyMaker : PySem.W.findIn K (.ref c_ManyMaker) "__setattr__" = some (some (.builtin "object.__setattr__")))
    (Op_RisingMaker : PySem.W.plainGet K c_RisingMaker Str.empty = true)
    (Od_RisingMaker : PySem.W.hasDictIn K c_RisingMaker = true)
    (Oo_RisingMaker : PySem.W.plainOver K c_RisingMaker = true)
    (Os_RisingMaker : PySem.W.findIn K (.ref c_RisingMaker) "__setattr__" = some (some (.builtin "object.__setattr__")))
    (Op_UnlikeMaker : PySem.W.plainGet K c_UnlikeMaker Str.empty = true)
    (Od_UnlikeMaker : PySem.W.hasDictIn K c_UnlikeMaker = true)
    (Oo_UnlikeMaker : PySem.W.plainOver K c_UnlikeMaker = true)
    (Os_UnlikeMaker : PySem.W.findIn K (.ref c_UnlikeMaker) "__setattr__" = some (some (.builtin "object.__setattr__")))
    (Op_AlikeMaker : PySem.W.plainGet K c_AlikeMaker Str.empty = true)
    (Od_AlikeMaker : PySem.W.hasDictIn K c_AlikeMaker = true)
    (Oo_AlikeMaker : PySem.W.plainOver K c_AlikeMaker = true)
    (Os_AlikeMaker : PySem.W.findIn K (.ref c_AlikeMaker) "__setattr__" = some (some (.builtin "object.__setattr__")))
    (Op_PickMaker : PySem.W.plainGet K c_PickMaker Str.empty = true)
    (Od_PickMaker : PySem.W.hasDictIn K c_PickMaker = true)
    (Oo_PickMaker : PySem.W.plainOver K c_PickMaker = true)
    (Os_PickMaker : PySem.W.findIn K (.ref c_PickMaker) "__setattr__" = some (some (.builtin "object.__setattr__")))
    (Op_UseMaker : PySem.W.plainGet K c_UseMaker Str.empty = true)
    (Od_UseMaker : PySem.W.hasDictIn K c_UseMaker = true)
    (Oo_UseMaker : PySem.W.plainOver K c_UseMaker = true)
    (Os_UseMaker : PySem.W.findIn K (.ref c_UseMaker) "__setattr__" = some (some (.builtin "object.__setattr__")))
    (Op_Tables : PySem.W.plainGet K c_Tables Str.empty = true)
    (Od_Tables : PySem.W.hasDictIn K c_Tables = true)
    (Oo_Tables : PySem.W.plainOver K c_Tables = true)
    (Os_Tables : PySem.W.findIn K (.ref c_Tables) "__setattr__" = some (some (.builtin "object.__setattr__")))
    (Om_AlikeMaker : PySem.W.makesIn K c_AlikeMaker = true)
    (Oi_AlikeMaker : PySem.W.findIn K (.ref c_AlikeMaker) "__init__" = some (some (.ref a_AlikeMaker___init__)))
    (Ok_AlikeMaker : PySem.W.keepIn K (.ref c_AlikeMaker) = true)
    (Om_ManyMaker : PySem.W.makesIn K c_ManyMaker = true)
    (Oi_ManyMaker : PySem.W.findIn K (.ref c_ManyMaker) "__init__" = some (some (.ref a_Maker___init__)))
    (Ok_ManyMaker : PySem.W.keepIn K (.ref c_ManyMaker) = true)
    (Om_PickMaker : PySem.W.makesIn K c_PickMaker = true)
    (Oi_PickMaker : PySem.W.findIn K (.ref c_PickMaker) "__init__" = some (some (.ref a_PickMaker___init__)))
    (Ok_PickMaker : PySem.W.keepIn K (.ref c_PickMaker) = true)
    (Om_RisingMaker : PySem.W.makesIn K c_RisingMaker = true)
    (Oi_RisingMaker : PySem.W.findIn K (.ref c_RisingMaker) "__init__" = some (some (.ref a_RisingMaker___init__)))
    (Ok_RisingMaker : PySem.W.keepIn K (.ref c_RisingMaker) = true)
    (Om_RowMaker : PySem.W.makesIn K c_RowMaker = true)
    (Oi_RowMaker : PySem.W.findIn K (.ref c_RowMaker) "__init__" = some (some (.ref a_RowMaker___init__)))
    (Ok_RowMaker : PySem.W.keepIn K (.ref c_RowMaker) = true)
    (Om_Tables : PySem.W.makesIn K c_Tables = true)
    (Oi_Tables : PySem.W.findIn K (.ref c_Tables) "__init__" = some (some (.ref a_Tables___init__)))
    (Ok_Tables : PySem.W.keepIn K (.ref c_Tables) = true)
    (Om_TextMaker : PySem.W.makesIn K c_TextMaker = true)
    (Oi_TextMaker : PySem.W.findIn K (.ref c_TextMaker) "__init__" = some (some (.ref a_TextMaker___init__)))
    (Ok_TextMaker : PySem.W.keepIn K (.ref c_TextMaker) = true)
    (Om_UnlikeMaker : PySem.W.makesIn K c_UnlikeMaker = true)
    (Oi_UnlikeMaker : PySem.W.findIn K (.ref c_UnlikeMaker) "__init__" = some (some (.ref a_RisingMaker___init__)))
    (Ok_UnlikeMaker : PySem.W.keepIn K (.ref c_UnlikeMaker) = true)
    (Om_UseMaker : PySem.W.makesIn K c_UseMaker = true)
    (Oi_UseMaker : PySem.W.findIn K (.ref c_UseMaker) "__init__" = some (some (.ref a_UseMaker___init__)))
    (Ok_UseMaker : PySem.W.keepIn K (.ref c_UseMaker) = true)
    (Om_WholeMaker : PySem.W.makesIn K c_WholeMaker = true)
    (Oi_WholeMaker : PySem.W.findIn K (.ref c_WholeMaker) "__init__" = some (some (.ref a_WholeMaker___init__)))
    (Ok_WholeMaker : PySem.W.keepIn K (.ref c_WholeMaker) = true)
    (If_Maker___init__ : PySem.W.isFn K (.ref a_Maker___init__) = true)
    (If_AlikeMaker___init__ : PySem.W.isFn K (.ref a_AlikeMaker___init__) = true)
    (If_PickMaker___init__ : PySem.W.isFn K (.ref a_PickMaker___init__) = true)
    (If_RisingMaker___init__ : PySem.W.isFn K (.ref a_RisingMaker___init__) = true)
    (If_RowMaker___init__ : PySem.W.isFn K (.ref a_RowMaker___init__) = true)
    (If_TextMaker___init__ : PySem.W.isFn K (.ref a_TextMaker___init__) = true)
    (If_UseMaker___init__ : PySem.W.isFn K (.ref a_UseMaker___init__) = true)
    (If_WholeMaker___init__ : PySem.W.isFn K (.ref a_WholeMaker___init__) = true)
    (If_Tables___init__ : PySem.W.isFn K (.ref a_Tables___init__) = true)
    (If_Tables_counts_at : PySem.W.isFn K (.ref a_Tables_counts_at) = true)
    (If_AlikeMaker_next_count : PySem.W.isFn K (.ref a_AlikeMaker_next_count) = true)
    (If_ManyMaker_next_count : PySem.W.isFn K (.ref a_ManyMaker_next_count) = true)
    (If_PickMaker_next_count : PySem.W.isFn K (.ref a_PickMaker_next_count) = true)
    (If_RisingMaker_beyond : PySem.W.isFn K (.ref a_RisingMaker_beyond) = true)
    (If_RisingMaker_among : PySem.W.isFn K (.ref a_RisingMaker_among) = true)
    (If_UnlikeMaker_among : PySem.W.isFn K (.ref a_UnlikeMaker_among) = true)
    (If_RisingMaker_block : PySem.W.isFn K (.ref a_RisingMaker_block) = true)
    (If_RisingMaker_next_count : PySem.W.isFn K (.ref a_RisingMaker_next_count) = true)
    (If_RowMaker_next_count : PySem.W.isFn K (.ref a_RowMaker_next_count) = true)
    (If_TextMaker_next_count : PySem.W.isFn K (.ref a_TextMaker_next_count) = true)
    (If_UseMaker_next_count : PySem.W.isFn K (.ref a_UseMaker_next_count) = true)
    (If_WholeMaker_next_count : PySem.W.isFn K (.ref a_WholeMaker_next_count) = true)
    (If_Maker_grow : PySem.W.isFn K (.ref a_Maker_grow) = true)
    (If_Tables_grow_to : PySem.W.isFn K (.ref a_Tables_grow_to) = true)
    (If_RisingMaker_chosen_at : PySem.W.isFn K (.ref a_RisingMaker_chosen_at) = true)
    (If_TextMaker_told : PySem.W.isFn K (.ref a_TextMaker_told) = true)
    (If_WholeMaker_told : PySem.W.isFn K (.ref a_WholeMaker_told) = true)
    (If_UnlikeMaker_chosen_at : PySem.W.isFn K (.ref a_UnlikeMaker_chosen_at) = true)
    (If_UseMaker_told : PySem.W.isFn K (.ref a_UseMaker_told) = true)
    (If_RowMaker_told : PySem.W.isFn K (.ref a_RowMaker_told) = true)
    (If_RisingMaker_told : PySem.W.isFn K (.ref a_RisingMaker_told) = true)
    (If_PickMaker_told : PySem.W.isFn K (.ref a_PickMaker_told) = true)
    (If_ManyMaker_told : PySem.W.isFn K (.ref a_ManyMaker_told) = true)
    (If_AlikeMaker_told : PySem.W.isFn K (.ref a_AlikeMaker_told) = true)
    (If_Tables_told : PySem.W.isFn K (.ref a_Tables_told) = true)
    (Ov_RisingMaker_among : PySem.W.findIn K (.ref c_RisingMaker) "among" = some (some (.ref a_RisingMaker_among)))
    (Ov_UnlikeMaker_among : PySem.W.findIn K (.ref c_UnlikeMaker) "among" = some (some (.ref a_UnlikeMaker_among)))
    (Ov_RisingMaker_beyond : PySem.W.findIn K (.ref c_RisingMaker) "beyond" = some (some (.ref a_RisingMaker_beyond)))
    (Ov_UnlikeMaker_beyond : PySem.W.findIn K (.ref c_UnlikeMaker) "beyond" = some (some (.ref a_RisingMaker_beyond)))
    (Ov_RisingMaker_block : PySem.W.findIn K (.ref c_RisingMaker) "block" = some (some (.ref a_RisingMaker_block)))
    (Ov_UnlikeMaker_block : PySem.W.findIn K (.ref c_UnlikeMaker) "block" = some (some (.ref a_RisingMaker_block)))
    (Ov_RisingMaker_chosen_at : PySem.W.findIn K (.ref c_RisingMaker) "chosen_at" = some (some (.ref a_RisingMaker_chosen_at)))
    (Ov_UnlikeMaker_chosen_at : PySem.W.findIn K (.ref c_UnlikeMaker) "chosen_at" = some (some (.ref a_UnlikeMaker_chosen_at)))
    (Ov_Tables_counts_at : PySem.W.findIn K (.ref c_Tables) "counts_at" = some (some (.ref a_Tables_counts_at)))
    (Ov_WholeMaker_grow : PySem.W.findIn K (.ref c_WholeMaker) "grow" = some (some (.ref a_Maker_grow)))
    (Ov_TextMaker_grow : PySem.W.findIn K (.ref c_TextMaker) "grow" = some (some (.ref a_Maker_grow)))
    (Ov_RowMaker_grow : PySem.W.findIn K (.ref c_RowMaker) "grow" = some (some (.ref a_Maker_grow)))
    (Ov_ManyMaker_grow : PySem.W.findIn K (.ref c_ManyMaker) "grow" = some (some (.ref a_Maker_grow)))
    (Ov_RisingMaker_grow : PySem.W.findIn K (.ref c_RisingMaker) "grow" = some (some (.ref a_Maker_grow)))
    (Ov_UnlikeMaker_grow : PySem.W.findIn K (.ref c_UnlikeMaker) "grow" = some (some (.ref a_Maker_grow)))
    (Ov_AlikeMaker_grow : PySem.W.findIn K (.ref c_AlikeMaker) "grow" = some (some (.ref a_Maker_grow)))
    (Ov_PickMaker_grow : PySem.W.findIn K (.ref c_PickMaker) "grow" = some (some (.ref a_Maker_grow)))
    (Ov_UseMaker_grow : PySem.W.findIn K (.ref c_UseMaker) "grow" = some (some (.ref a_Maker_grow)))
    (Ov_Tables_grow_to : PySem.W.findIn K (.ref c_Tables) "grow_to" = some (some (.ref a_Tables_grow_to)))
    (Ov_WholeMaker_next_count : PySem.W.findIn K (.ref c_WholeMaker) "next_count" = some (some (.ref a_WholeMaker_next_count)))
    (Ov_TextMaker_next_count : PySem.W.findIn K (.ref c_TextMaker) "next_count" = some (some (.ref a_TextMaker_next_count)))
    (Ov_RowMaker_next_count : PySem.W.findIn K (.ref c_RowMaker) "next_count" = some (some (.ref a_RowMaker_next_count)))
    (Ov_ManyMaker_next_count : PySem.W.findIn K (.ref c_ManyMaker) "next_count" = some (some (.ref a_ManyMaker_next_count)))
    (Ov_RisingMaker_next_count : PySem.W.findIn K (.ref c_RisingMaker) "next_count" = some (some (.ref a_RisingMaker_next_count)))
    (Ov_UnlikeMaker_next_count : PySem.W.findIn K (.ref c_UnlikeMaker) "next_count" = some (some (.ref a_RisingMaker_next_count)))
    (Ov_AlikeMaker_next_count : PySem.W.findIn K (.ref c_AlikeMaker) "next_count" = some (some (.ref a_AlikeMaker_next_count)))
    (Ov_PickMaker_next_count : PySem.W.findIn K (.ref c_PickMaker) "next_count" = some (some (.ref a_PickMaker_next_count)))
    (Ov_UseMaker_next_count : PySem.W.findIn K (.ref c_UseMaker) "next_count" = some (some (.ref a_UseMaker_next_count)))
    (Ov_Tables_told : PySem.W.findIn K (.ref c_Tables) "told" = some (some (.ref a_Tables_told)))
    (Ov_WholeMaker_told : PySem.W.findIn K (.ref c_WholeMaker) "told" = some (some (.ref a_WholeMaker_told)))
    (Ov_TextMaker_told : PySem.W.findIn K (.ref c_TextMaker) "told" = some (some (.ref a_TextMaker_told)))
    (Ov_RowMaker_told : PySem.W.findIn K (.ref c_RowMaker) "told" = some (some (.ref a_RowMaker_told)))
    (Ov_ManyMaker_told : PySem.W.findIn K (.ref c_ManyMaker) "told" = some (some (.ref a_ManyMaker_told)))
    (Ov_RisingMaker_told : PySem.W.findIn K (.ref c_RisingMaker) "told" = some (some (.ref a_RisingMaker_told)))
    (Ov_UnlikeMaker_told : PySem.W.findIn K (.ref c_UnlikeMaker) "told" = some (some (.ref a_RisingMaker_told)))
    (Ov_AlikeMaker_told : PySem.W.findIn K (.ref c_AlikeMaker) "told" = some (some (.ref a_AlikeMaker_told)))
    (Ov_PickMaker_told : PySem.W.findIn K (.ref c_PickMaker) "told" = some (some (.ref a_PickMaker_told)))
    (Ov_UseMaker_told : PySem.W.findIn K (.ref c_UseMaker) "told" = some (some (.ref a_UseMaker_told)))
    (Na_WholeMaker_counts : PySem.W.findIn K (.ref c_WholeMaker) "counts" = some none)
    (Na_TextMaker_counts : PySem.W.findIn K (.ref c_TextMaker) "counts" = some none)
    (Na_RowMaker_counts : PySem.W.findIn K (.ref c_RowMaker) "counts" = some none)
    (Na_ManyMaker_counts : PySem.W.findIn K (.ref c_ManyMaker) "counts" = some none)
    (Na_RisingMaker_counts : PySem.W.findIn K (.ref c_RisingMaker) "counts" = some none)
    (Na_UnlikeMaker_counts : PySem.W.findIn K (.ref c_UnlikeMaker) "counts" = some none)
    (Na_AlikeMaker_counts : PySem.W.findIn K (.ref c_AlikeMaker) "counts" = some none)
    (Na_PickMaker_counts : PySem.W.findIn K (.ref c_PickMaker) "counts" = some none)
    (Na_UseMaker_counts : PySem.W.findIn K (.ref c_UseMaker) "counts" = some none)
    (Na_WholeMaker_low : PySem.W.findIn K (.ref c_WholeMaker) "low" = some none)
    (Na_PickMaker_marks : PySem.W.findIn K (.ref c_PickMaker) "marks" = some none)
    (Na_UseMaker_name : PySem.W.findIn K (.ref c_UseMaker) "name" = some none)
    (Na_UseMaker_named : PySem.W.findIn K (.ref c_UseMaker) "named" = some none)
    (Na_Tables_named : PySem.W.findIn K (.ref c_Tables) "named" = some none)
    (Na_RowMaker_rests : PySem.W.findIn K (.ref c_RowMaker) "rests" = some none)
    (Na_TextMaker_signs : PySem.W.findIn K (.ref c_TextMaker) "signs" = some none)
    (Na_WholeMaker_span : PySem.W.findIn K (.ref c_WholeMaker) "span" = some none)
    (Na_AlikeMaker_times : PySem.W.findIn K (.ref c_AlikeMaker) "times" = some none)
    (Na_Tables_top : PySem.W.findIn K (.ref c_Tables) "top" = some none)
    (Na_RisingMaker_ways : PySem.W.findIn K (.ref c_RisingMaker) "ways" = some none)
    (Na_UnlikeMaker_ways : PySem.W.findIn K (.ref c_UnlikeMaker) "ways" = some none)
    (Na_WholeMaker_within : PySem.W.findIn K (.ref c_WholeMaker) "within" = some none)
    (Na_TextMaker_within : PySem.W.findIn K (.ref c_TextMaker) "within" = some none)
    (Na_RowMaker_within : PySem.W.findIn K (.ref c_RowMaker) "within" = some none)
    (Na_ManyMaker_within : PySem.W.findIn K (.ref c_ManyMaker) "within" = some none)
    (Na_RisingMaker_within : PySem.W.findIn K (.ref c_RisingMaker) "within" = some none)
    (Na_UnlikeMaker_within : PySem.W.findIn K (.ref c_UnlikeMaker) "within" = some none)
    (Na_AlikeMaker_within : PySem.W.findIn K (.ref c_AlikeMaker) "within" = some none)
    (Na_PickMaker_within : PySem.W.findIn K (.ref c_PickMaker) "within" = some none)
    (Na_UseMaker_within : PySem.W.findIn K (.ref c_UseMaker) "within" = some none)
    (Cfg_Maker___init__ : PySem.W.specialIn K (.ref c_Maker) "__getattribute__" = some (some (.builtin "type.__getattribute__")))
    (Cfr_Maker___init__ : PySem.W.readsIn K c_Maker (.type "type") = true)
    (Cfa_Maker___init__ : PySem.W.findCls K (.ref c_Maker) (.type "type") "__init__" = some (.val (.ref a_Maker___init__)))
    (Ehg_NoDraw : PySem.W.findIn K (.ref c_NoDraw) "__getattribute__" = some (some (.builtin "BaseException.__getattribute__")))
    (Ehk_NoDraw : PySem.W.findIn K (.ref c_NoDraw) "__getattr__" = some none)
    (Eha_NoDraw : PySem.W.findIn K (.ref c_NoDraw) "__class__" = some (some (.builtin "object.__class__")))
    (Ehm_NoDraw : PySem.W.mroIn K c_NoDraw (.type "object") = some true)
    (Kt_NoDraw_CountError : PySem.W.kitOne K (.ref c_NoDraw) (.ref c_CountError) = some true)
    (Kt_NoDraw_NoNumber : PySem.W.kitOne K (.ref c_NoDraw) (.ref c_NoNumber) = some false)
    (Kt_NoDraw_TooMany : PySem.W.kitOne K (.ref c_NoDraw) (.ref c_TooMany) = some false)
    (Kt_NoDraw_ValueError : PySem.W.kitOne K (.ref c_NoDraw) (.type "ValueError") = some true)
    (Kn_CountError : PySem.W.kitOne K (.type "NoneType") (.ref c_CountError) = some false)
    (Kn_NoNumber : PySem.W.kitOne K (.type "NoneType") (.ref c_NoNumber) = some false)
    (Kn_TooMany : PySem.W.kitOne K (.type "NoneType") (.ref c_TooMany) = some false)
    (Kn_ValueError : PySem.W.kitOne K (.type "NoneType") (.type "ValueError") = some false)
    (Ehn : PySem.W.specialIn K (.builtin "object.__class__") "__get__" = some (some (.builtin "getset_descriptor.__get__")))
    (Eht : PySem.W.takesIn K (.builtin "object.__class__") = some true)
    (Cs_NoDraw_NoDraw : PySem.W.subIn K (.ref c_NoDraw) (.ref c_NoDraw) = some true) :
    ∃ fd : FuncData, (∀ (s : Shared) (v : Value), BindsTo s fd ⟨[v], []⟩ [("_law_script", v)]) ∧ ∀ base : Heap, K.In base → base.Ns mainGlobals mg → FnOk l.prog w K mg base (L2.CX l.prog w) 29 fa fd ["_law_script"] (spL K S_law) := by
  have e := hfa.symm.trans (PySem.W.mg_of X G N_50)
  cases e
  have F_l_alike := fun_mk (st := s_l_alike) L_0 C_0 K_l_alike
  have B_l_alike := F_l_alike.binds (ps := P_l_alike) fun _ _ _ _ _ _ us hl => match us, hl with | [_, _], _ => rfl
  have M_l_alike := PySem.W.mg_of X G N_0
  have F_l_cell_at := fun_mk (st := s_l_cell_at) L_1 C_1 K_l_cell_at
  have B_l_cell_at := F_l_cell_at.binds (ps := P_l_cell_at) fun _ _ _ _ _ _ us hl => match us, hl with | [_, _], _ => rfl
  have M_l_cell_at := PySem.W.mg_of X G N_1
  have F_l_count := fun_mk (st := s_l_count) L_2 C_2 K_l_count
  have B_l_count := F_l_count.binds (ps := P_l_count) fun _ _ _ _ _ _ us hl => match us, hl with | [_, _], _ => rfl
  have M_l_count := PySem.W.mg_of X G N_2
  have F_Maker___init__ := fun_mk (st := s_Maker___init__) L_3 C_3 K_Maker___init__
  have B_Maker___init__ := F_Maker___init__.binds (ps := P_Maker___init__) fun _ _ _ _ _ _ us hl => match us, hl with | [_, _], _ => rfl
  have F_AlikeMaker___init__ := fun_mk (st := s_AlikeMaker___init__) L_4 C_4 K_AlikeMaker___init__
  have B_AlikeMaker___init__ := F_AlikeMaker___init__.binds (ps := P_AlikeMaker___init__) fun _ _ _ _ _ _ us hl => match us, hl with | [_, _, _], _ => rfl
  have F_PickMaker___init__ := fun_mk (st := s_PickMaker___init__) L_5 C_5 K_PickMaker___init__
  have B_PickMaker___init__ := F_PickMaker___init__.binds (ps := P_PickMaker___init__) fun _ _ _ _ _ _ us hl => match us, hl with | [_, _, _], _ => rfl
  have F_RisingMaker___init__ := fun_mk (st := s_RisingMaker___init__) L_6 C_6 K_RisingMaker___init__
  have B_RisingMaker___init__ := F_RisingMaker___init__.binds (ps := P_RisingMaker___init__) fun _ _ _ _ _ _ us hl => match us, hl with | [_, _], _ => rfl
  have F_RowMaker___init__ := fun_mk (st := s_RowMaker___init__) L_7 C_7 K_RowMaker___init__
  have B_RowMaker___init__ := F_RowMaker___init__.binds (ps := P_RowMaker___init__) fun _ _ _ _ _ _ us hl => match us, hl with | [_, _], _ => rfl
  have F_TextMaker___init__ := fun_mk (st := s_TextMaker___init__) L_8 C_8 K_TextMaker___init__
  have B_TextMaker___init__ := F_TextMaker___init__.binds (ps := P_TextMaker___init__) fun _ _ _ _ _ _ us hl => match us, hl with | [_, _], _ => rfl
  have F_UseMaker___init__ := fun_mk (st := s_UseMaker___init__) L_9 C_9 K_UseMaker___init__
  have B_UseMaker___init__ := F_UseMaker___init__.binds (ps := P_UseMaker___init__) fun _ _ _ _ _ _ us hl => match us, hl with | [_, _, _], _ => rfl
  have F_WholeMaker___init__ := fun_mk (st := s_WholeMaker___init__) L_10 C_10 K_WholeMaker___init__
  have B_WholeMaker___init__ := F_WholeMaker___init__.binds (ps := P_WholeMaker___init__) fun _ _ _ _ _ _ us hl => match us, hl with | [_, _, _], _ => rfl
  have F_maker_of := fun_mk (st := s_maker_of) L_11 C_11 K_maker_of
  have B_maker_of := F_maker_of.binds (ps := P_maker_of) fun _ _ _ _ _ _ us hl => match us, hl with | [_, _], _ => rfl
  have M_maker_of := PySem.W.mg_of X G N_11
  have F_Tables___init__ := fun_mk (st := s_Tables___init__) L_12 C_12 K_Tables___init__
  have B_Tables___init__ := F_Tables___init__.binds (ps := P_Tables___init__) fun _ _ _ _ _ _ us hl => match us, hl with | [_, _, _], _ => rfl
  have F_Tables_counts_at := fun_mk (st := s_Tables_counts_at) L_13 C_13 K_Tables_counts_at
  have B_Tables_counts_at := F_Tables_counts_at.binds (ps := P_Tables_counts_at) fun _ _ _ _ _ _ us hl => match us, hl with | [_, _], _ => rfl
  have F_AlikeMaker_next_count := fun_mk (st := s_AlikeMaker_next_count) L_14 C_14 K_AlikeMaker_next_count
  have B_AlikeMaker_next_count := F_AlikeMaker_next_count.binds (ps := P_AlikeMaker_next_count) fun _ _ _ _ _ _ us hl => match us, hl with | [_, _], _ => rfl
  have F_ManyMaker_next_count := fun_mk (st := s_ManyMaker_next_count) L_15 C_15 K_ManyMaker_next_count
  have B_ManyMaker_next_count := F_ManyMaker_next_count.binds (ps := P_ManyMaker_next_count) fun _ _ _ _ _ _ us hl => match us, hl with | [_, _], _ => rfl
  have F_PickMaker_next_count := fun_mk (st := s_PickMaker_next_count) L_16 C_16 K_PickMaker_next_count
  have B_PickMaker_next_count := F_PickMaker_next_count.binds (ps := P_PickMaker_next_count) fun _ _ _ _ _ _ us hl => match us, hl with | [_, _], _ => rfl
  have F_RisingMaker_beyond := fun_mk (st := s_RisingMaker_beyond) L_17 C_17 K_RisingMaker_beyond
  have B_RisingMaker_beyond := F_RisingMaker_beyond.binds (ps := P_RisingMaker_beyond) fun _ _ _ _ _ _ us hl => match us, hl with | [_, _, _], _ => rfl
  have F_sets_among := fun_mk (st := s_sets_among) L_18 C_18 K_sets_among
  have B_sets_among := F_sets_among.binds (ps := P_sets_among) fun _ _ _ _ _ _ us hl => match us, hl with | [_, _], _ => rfl
  have M_sets_among := PySem.W.mg_of X G N_18
  have F_bags_among := fun_mk (st := s_bags_among) L_19 C_19 K_bags_among
  have B_bags_among := F_bags_among.binds (ps := P_bags_among) fun _ _ _ _ _ _ us hl => match us, hl with | [_, _], _ => rfl
  have M_bags_among := PySem.W.mg_of X G N_19
  have F_RisingMaker_among := fun_mk (st := s_RisingMaker_among) L_20 C_20 K_RisingMaker_among
  have B_RisingMaker_among := F_RisingMaker_among.binds (ps := P_RisingMaker_among) fun _ _ _ _ _ _ us hl => match us, hl with | [_, _, _], _ => rfl
  have F_UnlikeMaker_among := fun_mk (st := s_UnlikeMaker_among) L_21 C_21 K_UnlikeMaker_among
  have B_UnlikeMaker_among := F_UnlikeMaker_among.binds (ps := P_UnlikeMaker_among) fun _ _ _ _ _ _ us hl => match us, hl with | [_, _, _], _ => rfl
  have F_RisingMaker_block := fun_mk (st := s_RisingMaker_block) L_22 C_22 K_RisingMaker_block
  have B_RisingMaker_block := F_RisingMaker_block.binds (ps := P_RisingMaker_block) fun _ _ _ _ _ _ us hl => match us, hl with | [_, _, _, _], _ => rfl
  have F_RisingMaker_next_count := fun_mk (st := s_RisingMaker_next_count) L_23 C_23 K_RisingMaker_next_count
  have B_RisingMaker_next_count := F_RisingMaker_next_count.binds (ps := P_RisingMaker_next_count) fun _ _ _ _ _ _ us hl => match us, hl with | [_, _], _ => rfl
  have F_RowMaker_next_count := fun_mk (st := s_RowMaker_next_count) L_24 C_24 K_RowMaker_next_count
  have B_RowMaker_next_count := F_RowMaker_next_count.binds (ps := P_RowMaker_next_count) fun _ _ _ _ _ _ us hl => match us, hl with | [_, _], _ => rfl
  have F_TextMaker_next_count := fun_mk (st := s_TextMaker_next_count) L_25 C_25 K_TextMaker_next_count
  have B_TextMaker_next_count := F_TextMaker_next_count.binds (ps := P_TextMaker_next_count) fun _ _ _ _ _ _ us hl => match us, hl with | [_, _], _ => rfl
  have F_UseMaker_next_count := fun_mk (st := s_UseMaker_next_count) L_26 C_26 K_UseMaker_next_count
  have B_UseMaker_next_count := F_UseMaker_next_count.binds (ps := P_UseMaker_next_count) fun _ _ _ _ _ _ us hl => match us, hl with | [_, _], _ => rfl
  have F_WholeMaker_next_count := fun_mk (st := s_WholeMaker_next_count) L_27 C_27 K_WholeMaker_next_count
  have B_WholeMaker_next_count := F_WholeMaker_next_count.binds (ps := P_WholeMaker_next_count) fun _ _ _ _ _ _ us hl => match us, hl with | [_, _], _ => rfl
  have F_Maker_grow := fun_mk (st := s_Maker_grow) L_28 C_28 K_Maker_grow
  have B_Maker_grow := F_Maker_grow.binds (ps := P_Maker_grow) fun _ _ _ _ _ _ us hl => match us, hl with | [_], _ => rfl
  have F_Tables_grow_to := fun_mk (st := s_Tables_grow_to) L_29 C_29 K_Tables_grow_to
  have B_Tables_grow_to := F_Tables_grow_to.binds (ps := P_Tables_grow_to) fun _ _ _ _ _ _ us hl => match us, hl with | [_, _], _ => rfl
  have F_greatest_below := fun_mk (st := s_greatest_below) L_30 C_30 K_greatest_below
  have B_greatest_below := F_greatest_below.binds (ps := P_greatest_below) fun _ _ _ _ _ _ us hl => match us, hl with | [_, _], _ => rfl
  have M_greatest_below := PySem.W.mg_of X G N_30
  have F_set_at := fun_mk (st := s_set_at) L_31 C_31 K_set_at
  have B_set_at := F_set_at.binds (ps := P_set_at) fun _ _ _ _ _ _ us hl => match us, hl with | [_, _], _ => rfl
  have M_set_at := PySem.W.mg_of X G N_31
  have F_bag_at := fun_mk (st := s_bag_at) L_32 C_32 K_bag_at
  have B_bag_at := F_bag_at.binds (ps := P_bag_at) fun _ _ _ _ _ _ us hl => match us, hl with | [_, _], _ => rfl
  have M_bag_at := PySem.W.mg_of X G N_32
  have F_RisingMaker_chosen_at := fun_mk (st := s_RisingMaker_chosen_at) L_33 C_33 K_RisingMaker_chosen_at
  have B_RisingMaker_chosen_at := F_RisingMaker_chosen_at.binds (ps := P_RisingMaker_chosen_at) fun _ _ _ _ _ _ us hl => match us, hl with | [_, _, _], _ => rfl
  have F_TextMaker_told := fun_mk (st := s_TextMaker_told) L_34 C_34 K_TextMaker_told
  have B_TextMaker_told := F_TextMaker_told.binds (ps := P_TextMaker_told) fun _ _ _ _ _ _ us hl => match us, hl with | [_, _, _], _ => rfl
  have F_WholeMaker_told := fun_mk (st := s_WholeMaker_told) L_35 C_35 K_WholeMaker_told
  have B_WholeMaker_told := F_WholeMaker_told.binds (ps := P_WholeMaker_told) fun _ _ _ _ _ _ us hl => match us, hl with | [_, _, _], _ => rfl
  have F_first_taken := fun_mk (st := s_first_taken) L_36 C_36 K_first_taken
  have B_first_taken := F_first_taken.binds (ps := P_first_taken) fun _ _ _ _ _ _ us hl => match us, hl with | [_, _, _, _], _ => rfl
  have M_first_taken := PySem.W.mg_of X G N_36
  have F_UnlikeMaker_chosen_at := fun_mk (st := s_UnlikeMaker_chosen_at) L_37 C_37 K_UnlikeMaker_chosen_at
  have B_UnlikeMaker_chosen_at := F_UnlikeMaker_chosen_at.binds (ps := P_UnlikeMaker_chosen_at) fun _ _ _ _ _ _ us hl => match us, hl with | [_, _, _], _ => rfl
  have F_UseMaker_told := fun_mk (st := s_UseMaker_told) L_38 C_38 K_UseMaker_told
  have B_UseMaker_told := F_UseMaker_told.binds (ps := P_UseMaker_told) fun _ _ _ _ _ _ us hl => match us, hl with | [_, _, _], _ => rfl
  have F_RowMaker_told := fun_mk (st := s_RowMaker_told) L_39 C_39 K_RowMaker_told
  have B_RowMaker_told := F_RowMaker_told.binds (ps := P_RowMaker_told) fun _ _ _ _ _ _ us hl => match us, hl with | [_, _, _], _ => rfl
  have F_RisingMaker_told := fun_mk (st := s_RisingMaker_told) L_40 C_40 K_RisingMaker_told
  have B_RisingMaker_told := F_RisingMaker_told.binds (ps := P_RisingMaker_told) fun _ _ _ _ _ _ us hl => match us, hl with | [_, _, _], _ => rfl
  have F_PickMaker_told := fun_mk (st := s_PickMaker_told) L_41 C_41 K_PickMaker_told
  have B_PickMaker_told := F_PickMaker_told.binds (ps := P_PickMaker_told) fun _ _ _ _ _ _ us hl => match us, hl with | [_, _, _], _ => rfl
  have F_ManyMaker_told := fun_mk (st := s_ManyMaker_told) L_42 C_42 K_ManyMaker_told
  have B_ManyMaker_told := F_ManyMaker_told.binds (ps := P_ManyMaker_told) fun _ _ _ _ _ _ us hl => match us, hl with | [_, _, _], _ => rfl
  have F_AlikeMaker_told := fun_mk (st := s_AlikeMaker_told) L_43 C_43 K_AlikeMaker_told
  have B_AlikeMaker_told := F_AlikeMaker_told.binds (ps := P_AlikeMaker_told) fun _ _ _ _ _ _ us hl => match us, hl with | [_, _, _], _ => rfl
  have F_Tables_told := fun_mk (st := s_Tables_told) L_44 C_44 K_Tables_told
  have B_Tables_told := F_Tables_told.binds (ps := P_Tables_told) fun _ _ _ _ _ _ us hl => match us, hl with | [_, _, _], _ => rfl
  have F_fair := fun_mk (st := s_fair) L_45 C_45 K_fair
  have B_fair := F_fair.binds (ps := P_fair) fun _ _ _ _ _ _ us hl => match us, hl with | [_, _, _], _ => rfl
  have M_fair := PySem.W.mg_of X G N_45
  have F_drawn_values := fun_mk (st := s_drawn_values) L_46 C_46 K_drawn_values
  have B_drawn_values := F_drawn_values.binds (ps := P_drawn_values) fun _ _ _ _ _ _ us hl => match us, hl with | [_, _, _, _, _], _ => rfl
  have M_drawn_values := PySem.W.mg_of X G N_46
  have F_l_refused := fun_mk (st := s_l_refused) L_47 C_47 K_l_refused
  have B_l_refused := F_l_refused.binds (ps := P_l_refused) fun _ _ _ _ _ _ us hl => match us, hl with | [_, _, _, _, _], _ => rfl
  have M_l_refused := PySem.W.mg_of X G N_47
  have F_l_signs := fun_mk (st := s_l_signs) L_48 C_48 K_l_signs
  have B_l_signs := F_l_signs.binds (ps := P_l_signs) fun _ _ _ _ _ _ us hl => match us, hl with | [_, _], _ => rfl
  have M_l_signs := PySem.W.mg_of X G N_48
  have F_l_value := fun_mk (st := s_l_value) L_49 C_49 K_l_value
  have B_l_value := F_l_value.binds (ps := P_l_value) fun _ _ _ _ _ _ us hl => match us, hl with | [_, _, _], _ => rfl
  have M_l_value := PySem.W.mg_of X G N_49
  have F_law := fun_mk (st := s_law) L_50 C_50 K_law
  have B_law := F_law.binds (ps := P_law) fun _ _ _ _ _ _ us hl => match us, hl with | [_], _ => rfl
  have M_law := PySem.W.mg_of X G N_50
  have Z_ValueError := PySem.W.mg_none_of X G Y_ValueError
  have Z_bool := PySem.W.mg_none_of X G Y_bool
  have Z_divmod := PySem.W.mg_none_of X G Y_divmod
  have Z_enumerate := PySem.W.mg_none_of X G Y_enumerate
  have Z_int := PySem.W.mg_none_of X G Y_int
  have Z_isinstance := PySem.W.mg_none_of X G Y_isinstance
  have Z_len := PySem.W.mg_none_of X G Y_len
  have Z_list := PySem.W.mg_none_of X G Y_list
  have Z_max := PySem.W.mg_none_of X G Y_max
  have Z_min := PySem.W.mg_none_of X G Y_min
  have Z_range := PySem.W.mg_none_of X G Y_range
  have Z_reversed := PySem.W.mg_none_of X G Y_reversed
  have Z_str := PySem.W.mg_none_of X G Y_str
  have Z_sum := PySem.W.mg_none_of X G Y_sum
  have Z_tuple := PySem.W.mg_none_of X G Y_tuple
  have Z_zip := PySem.W.mg_none_of X G Y_zip
  have X_NoDraw : XC K mg (ctOf c_NoDraw c_CountError c_NoNumber c_TooMany c_Maker c_WholeMaker c_TextMaker c_RowMaker c_ManyMaker c_RisingMaker c_UnlikeMaker c_AlikeMaker c_PickMaker c_UseMaker c_Tables) "NoDraw" := ⟨PySem.W.mg_of X G Cg_NoDraw, Ck_NoDraw, Cq_NoDraw, Cb_NoDraw, Ct_NoDraw, Cd_NoDraw⟩
  have CL_WholeMaker : Cls K ((ctOf c_NoDraw c_CountError c_NoNumber c_TooMany c_Maker c_WholeMaker c_TextMaker c_RowMaker c_ManyMaker c_RisingMaker c_UnlikeMaker c_AlikeMaker c_PickMaker c_UseMaker c_Tables) "WholeMaker") := ⟨Op_WholeMaker, Od_WholeMaker, Oo_WholeMaker, Os_WholeMaker⟩
  have CL_TextMaker : Cls K ((ctOf c_NoDraw c_CountError c_NoNumber c_TooMany c_Maker c_WholeMaker c_TextMaker c_RowMaker c_ManyMaker c_RisingMaker c_UnlikeMaker c_AlikeMaker c_PickMaker c_UseMaker c_Tables) "TextMaker") := ⟨Op_TextMaker, Od_TextMaker, Oo_TextMaker, Os_TextMaker⟩
  have CL_RowMaker : Cls K ((ctOf c_NoDraw c_CountError c_NoNumber c_TooMany c_Maker c_WholeMaker c_TextMaker c_RowMaker c_ManyMaker c_RisingMaker c_UnlikeMaker c_AlikeMaker c_PickMaker c_UseMaker c_Tables) "RowMaker") := ⟨Op_RowMaker, Od_RowMaker, Oo_RowMaker, Os_RowMaker⟩
  have CL_ManyMaker : Cls K ((ctOf c_NoDraw c_CountError c_NoNumber c_TooMany c_Maker c_WholeMaker c_TextMaker c_RowMaker c_ManyMaker c_RisingMaker c_UnlikeMaker c_AlikeMaker c_PickMaker c_UseMaker c_Tables) "ManyMaker") := ⟨Op_ManyMaker, Od_ManyMaker, Oo_ManyMaker, Os_ManyMaker⟩
  have CL_RisingMaker : Cls K ((ctOf c_NoDraw c_CountError c_NoNumber c_TooMany c_Maker c_WholeMaker c_TextMaker c_RowMaker c_ManyMaker c_RisingMaker c_UnlikeMaker c_AlikeMaker c_PickMaker c_UseMaker c_Tables) "RisingMaker") := ⟨Op_RisingMaker, Od_RisingMaker, Oo_RisingMaker, Os_RisingMaker⟩
  have CL_UnlikeMaker : Cls K ((ctOf c_NoDraw c_CountError c_NoNumber c_TooMany c_Maker c_WholeMaker c_TextMaker c_RowMaker c_ManyMaker c_RisingMaker c_UnlikeMaker c_AlikeMaker c_PickMaker c_UseMaker c_Tables) "UnlikeMaker") := ⟨Op_UnlikeMaker, Od_UnlikeMaker, Oo_UnlikeMaker, Os_UnlikeMaker⟩
  have CL_AlikeMaker : Cls K ((ctOf c_NoDraw c_CountError c_NoNumber c_TooMany c_Maker c_WholeMaker c_TextMaker c_RowMaker c_ManyMaker c_RisingMaker c_UnlikeMaker c_AlikeMaker c_PickMaker c_UseMaker c_Tables) "AlikeMaker") := ⟨Op_AlikeMaker, Od_AlikeMaker, Oo_AlikeMaker, Os_AlikeMaker⟩
  have CL_PickMaker : Cls K ((ctOf c_NoDraw c_CountError c_NoNumber c_TooMany c_Maker c_WholeMaker c_TextMaker c_RowMaker c_ManyMaker c_RisingMaker c_UnlikeMaker c_AlikeMaker c_PickMaker c_UseMaker c_Tables) "PickMaker") := ⟨Op_PickMaker, Od_PickMaker, Oo_PickMaker, Os_PickMaker⟩
  have CL_UseMaker : Cls K ((ctOf c_NoDraw c_CountError c_NoNumber c_TooMany c_Maker c_WholeMaker c_TextMaker c_RowMaker c_ManyMaker c_RisingMaker c_UnlikeMaker c_AlikeMaker c_PickMaker c_UseMaker c_Tables) "UseMaker") := ⟨Op_UseMaker, Od_UseMaker, Oo_UseMaker, Os_UseMaker⟩
  have CL_Tables : Cls K ((ctOf c_NoDraw c_CountError c_NoNumber c_TooMany c_Maker c_WholeMaker c_TextMaker c_RowMaker c_ManyMaker c_RisingMaker c_UnlikeMaker c_AlikeMaker c_PickMaker c_UseMaker c_Tables) "Tables") := ⟨Op_Tables, Od_Tables, Oo_Tables, Os_Tables⟩
  have AT_counts : ClAt K (ctOf c_NoDraw c_CountError c_NoNumber c_TooMany c_Maker c_WholeMaker c_TextMaker c_RowMaker c_ManyMaker c_RisingMaker c_UnlikeMaker c_AlikeMaker c_PickMaker c_UseMaker c_Tables) cl_counts "counts" := by
    intro c hc
    simp only [cl_counts, Bool.or_eq_true, decide_eq_true_eq] at hc
    rcases hc with hc | hc | hc | hc | hc | hc | hc | hc | hc
    · subst hc; exact ⟨CL_WholeMaker, Na_WholeMaker_counts⟩
    · subst hc; exact ⟨CL_TextMaker, Na_TextMaker_counts⟩
    · subst hc; exact ⟨CL_RowMaker, Na_RowMaker_counts⟩
    · subst hc; exact ⟨CL_ManyMaker, Na_ManyMaker_counts⟩
    · subst hc; exact ⟨CL_RisingMaker, Na_RisingMaker_counts⟩
    · subst hc; exact ⟨CL_UnlikeMaker, Na_UnlikeMaker_counts⟩
    · subst hc; exact ⟨CL_AlikeMaker, Na_AlikeMaker_counts⟩
    · subst hc; exact ⟨CL_PickMaker, Na_PickMaker_counts⟩
    · subst hc; exact ⟨CL_UseMaker, Na_UseMaker_counts⟩
  have AT_low : ClAt K (ctOf c_NoDraw c_CountError c_NoNumber c_TooMany c_Maker c_WholeMaker c_TextMaker c_RowMaker c_ManyMaker c_RisingMaker c_UnlikeMaker c_AlikeMaker c_PickMaker c_UseMaker c_Tables) cl_low "low" := by
    intro c hc
    simp only [cl_low, Bool.or_eq_true, decide_eq_true_eq] at hc
    subst hc; exact ⟨CL_WholeMaker, Na_WholeMaker_low⟩
  have AT_marks : ClAt K (ctOf c_NoDraw c_CountError c_NoNumber c_TooMany c_Maker c_WholeMaker c_TextMaker c_RowMaker c_ManyMaker c_RisingMaker c_UnlikeMaker c_AlikeMaker c_PickMaker c_UseMaker c_Tables) cl_marks "marks" := by
    intro c hc
    simp only [cl_marks, Bool.or_eq_true, decide_eq_true_eq] at hc
    subst hc; exact ⟨CL_PickMaker, Na_PickMaker_marks⟩
  have AT_name : ClAt K (ctOf c_NoDraw c_CountError c_NoNumber c_TooMany c_Maker c_WholeMaker c_TextMaker c_RowMaker c_ManyMaker c_RisingMaker c_UnlikeMaker c_AlikeMaker c_PickMaker c_UseMaker c_Tables) cl_name "name" := by
    intro c hc
    simp only [cl_name, Bool.or_eq_true, decide_eq_true_eq] at hc
    subst hc; exact ⟨CL_UseMaker, Na_UseMaker_name⟩
  have AT_named : ClAt K (ctOf c_NoDraw c_CountError c_NoNumber c_TooMany c_Maker c_WholeMaker c_TextMaker c_RowMaker c_ManyMaker c_RisingMaker c_UnlikeMaker c_AlikeMaker c_PickMaker c_UseMaker c_Tables) cl_named "named" := by
    intro c hc
    simp only [cl_named, Bool.or_eq_true, decide_eq_true_eq] at hc
    rcases hc with hc | hc
    · subst hc; exact ⟨CL_UseMaker, Na_UseMaker_named⟩
    · subst hc; exact ⟨CL_Tables, Na_Tables_named⟩
  have AT_rests : ClAt K (ctOf c_NoDraw c_CountError c_NoNumber c_TooMany c_Maker c_WholeMaker c_TextMaker c_RowMaker c_ManyMaker c_RisingMaker c_UnlikeMaker c_AlikeMaker c_PickMaker c_UseMaker c_Tables) cl_rests "rests" := by
    intro c hc
    simp only [cl_rests, Bool.or_eq_true, decide_eq_true_eq] at hc
    subst hc; exact ⟨CL_RowMaker, Na_RowMaker_rests⟩
  have AT_signs : ClAt K (ctOf c_NoDraw c_CountError c_NoNumber c_TooMany c_Maker c_WholeMaker c_TextMaker c_RowMaker c_ManyMaker c_RisingMaker c_UnlikeMaker c_AlikeMaker c_PickMaker c_UseMaker c_Tables) cl_signs "signs" := by
    intro c hc
    simp only [cl_signs, Bool.or_eq_true, decide_eq_true_eq] at hc
    subst hc; exact ⟨CL_TextMaker, Na_TextMaker_signs⟩
  have AT_span : ClAt K (ctOf c_NoDraw c_CountError c_NoNumber c_TooMany c_Maker c_WholeMaker c_TextMaker c_RowMaker c_ManyMaker c_RisingMaker c_UnlikeMaker c_AlikeMaker c_PickMaker c_UseMaker c_Tables) cl_span "span" := by
    intro c hc
    simp only [cl_span, Bool.or_eq_true, decide_eq_true_eq] at hc
    subst hc; exact ⟨CL_WholeMaker, Na_WholeMaker_span⟩
  have AT_times : ClAt K (ctOf c_NoDraw c_CountError c_NoNumber c_TooMany c_Maker c_WholeMaker c_TextMaker c_RowMaker c_ManyMaker c_RisingMaker c_UnlikeMaker c_AlikeMaker c_PickMaker c_UseMaker c_Tables) cl_times "times" := by
    intro c hc
    simp only [cl_times, Bool.or_eq_true, decide_eq_true_eq] at hc
    subst hc; exact ⟨CL_AlikeMaker, Na_AlikeMaker_times⟩
  have AT_top : ClAt K (ctOf c_NoDraw c_CountError c_NoNumber c_TooMany c_Maker c_WholeMaker c_TextMaker c_RowMaker c_ManyMaker c_RisingMaker c_UnlikeMaker c_AlikeMaker c_PickMaker c_UseMaker c_Tables) cl_top "top" := by
    intro c hc
    simp only [cl_top, Bool.or_eq_true, decide_eq_true_eq] at hc
    subst hc; exact ⟨CL_Tables, Na_Tables_top⟩
  have AT_ways : ClAt K (ctOf c_NoDraw c_CountError c_NoNumber c_TooMany c_Maker c_WholeMaker c_TextMaker c_RowMaker c_ManyMaker c_RisingMaker c_UnlikeMaker c_AlikeMaker c_PickMaker c_UseMaker c_Tables) cl_ways "ways" := by
    intro c hc
    simp only [cl_ways, Bool.or_eq_true, decide_eq_true_eq] at hc
    rcases hc with hc | hc
    · subst hc; exact ⟨CL_RisingMaker, Na_RisingMaker_ways⟩
    · subst hc; exact ⟨CL_UnlikeMaker, Na_UnlikeMaker_ways⟩
  have AT_within : ClAt K (ctOf c_NoDraw c_CountError c_NoNumber c_TooMany c_Maker c_WholeMaker c_TextMaker c_RowMaker c_ManyMaker c_RisingMaker c_UnlikeMaker c_AlikeMaker c_PickMaker c_UseMaker c_Tables) cl_within "within" := by
    intro c hc
    simp only [cl_within, Bool.or_eq_true, decide_eq_true_eq] at hc
    rcases hc with hc | hc | hc | hc | hc | hc | hc | hc | hc
    · subst hc; exact ⟨CL_WholeMaker, Na_WholeMaker_within⟩
    · subst hc; exact ⟨CL_TextMaker, Na_TextMaker_within⟩
    · subst hc; exact ⟨CL_RowMaker, Na_RowMaker_within⟩
    · subst hc; exact ⟨CL_ManyMaker, Na_ManyMaker_within⟩
    · subst hc; exact ⟨CL_RisingMaker, Na_RisingMaker_within⟩
    · subst hc; exact ⟨CL_UnlikeMaker, Na_UnlikeMaker_within⟩
    · subst hc; exact ⟨CL_AlikeMaker, Na_AlikeMaker_within⟩
    · subst hc; exact ⟨CL_PickMaker, Na_PickMaker_within⟩
    · subst hc; exact ⟨CL_UseMaker, Na_UseMaker_within⟩
  have XT_NoDraw : XT K (ctOf c_NoDraw c_CountError c_NoNumber c_TooMany c_Maker c_WholeMaker c_TextMaker c_RowMaker c_ManyMaker c_RisingMaker c_UnlikeMaker c_AlikeMaker c_PickMaker c_UseMaker c_Tables) ((ctOf c_NoDraw c_CountError c_NoNumber c_TooMany c_Maker c_WholeMaker c_TextMaker c_RowMaker c_ManyMaker c_RisingMaker c_UnlikeMaker c_AlikeMaker c_PickMaker c_UseMaker c_Tables) "NoDraw") xt_NoDraw := by
    intro s b hs
    unfold xt_NoDraw at hs
    split at hs
    · rename_i e; subst e; cases hs; exact xt_sub Cb_NoDraw Cd_NoDraw Ct_NoDraw Cs_NoDraw_NoDraw
    exact nomatch hs
  have EI_CountError : EI K (ctOf c_NoDraw c_CountError c_NoNumber c_TooMany c_Maker c_WholeMaker c_TextMaker c_RowMaker c_ManyMaker c_RisingMaker c_UnlikeMaker c_AlikeMaker c_PickMaker c_UseMaker c_Tables) tb_CountError (.ref ((ctOf c_NoDraw c_CountError c_NoNumber c_TooMany c_Maker c_WholeMaker c_TextMaker c_RowMaker c_ManyMaker c_RisingMaker c_UnlikeMaker c_AlikeMaker c_PickMaker c_UseMaker c_Tables) "CountError")) := by
    refine ⟨Kn_CountError, fun s b hs => ?_⟩
    unfold tb_CountError at hs
    split at hs
    · rename_i e; subst e; cases hs; exact ⟨⟨Ehg_NoDraw, Ehk_NoDraw, Cb_NoDraw, Cd_NoDraw, Eha_NoDraw, Ehn, Eht, Ehm_NoDraw⟩, Kt_NoDraw_CountError⟩
    exact nomatch hs
  have EI_NoNumber : EI K (ctOf c_NoDraw c_CountError c_NoNumber c_TooMany c_Maker c_WholeMaker c_TextMaker c_RowMaker c_ManyMaker c_RisingMaker c_UnlikeMaker c_AlikeMaker c_PickMaker c_UseMaker c_Tables) tb_NoNumber (.ref ((ctOf c_NoDraw c_CountError c_NoNumber c_TooMany c_Maker c_WholeMaker c_TextMaker c_RowMaker c_ManyMaker c_RisingMaker c_UnlikeMaker c_AlikeMaker c_PickMaker c_UseMaker c_Tables) "NoNumber")) := by
    refine ⟨Kn_NoNumber, fun s b hs => ?_⟩
    unfold tb_NoNumber at hs
    split at hs
    · rename_i e; subst e; cases hs; exact ⟨⟨Ehg_NoDraw, Ehk_NoDraw, Cb_NoDraw, Cd_NoDraw, Eha_NoDraw, Ehn, Eht, Ehm_NoDraw⟩, Kt_NoDraw_NoNumber⟩
    exact nomatch hs
  have EI_TooMany : EI K (ctOf c_NoDraw c_CountError c_NoNumber c_TooMany c_Maker c_WholeMaker c_TextMaker c_RowMaker c_ManyMaker c_RisingMaker c_UnlikeMaker c_AlikeMaker c_PickMaker c_UseMaker c_Tables) tb_TooMany (.ref ((ctOf c_NoDraw c_CountError c_NoNumber c_TooMany c_Maker c_WholeMaker c_TextMaker c_RowMaker c_ManyMaker c_RisingMaker c_UnlikeMaker c_AlikeMaker c_PickMaker c_UseMaker c_Tables) "TooMany")) := by
    refine ⟨Kn_TooMany, fun s b hs => ?_⟩
    unfold tb_TooMany at hs
    split at hs
    · rename_i e; subst e; cases hs; exact ⟨⟨Ehg_NoDraw, Ehk_NoDraw, Cb_NoDraw, Cd_NoDraw, Eha_NoDraw, Ehn, Eht, Ehm_NoDraw⟩, Kt_NoDraw_TooMany⟩
    exact nomatch hs
  have EI_ValueError : EI K (ctOf c_NoDraw c_CountError c_NoNumber c_TooMany c_Maker c_WholeMaker c_TextMaker c_RowMaker c_ManyMaker c_RisingMaker c_UnlikeMaker c_AlikeMaker c_PickMaker c_UseMaker c_Tables) tb_ValueError (.type "ValueError") := by
    refine ⟨Kn_ValueError, fun s b hs => ?_⟩
    unfold tb_ValueError at hs
    split at hs
    · rename_i e; subst e; cases hs; exact ⟨⟨Ehg_NoDraw, Ehk_NoDraw, Cb_NoDraw, Cd_NoDraw, Eha_NoDraw, Ehn, Eht, Ehm_NoDraw⟩, Kt_NoDraw_ValueError⟩
    exact nomatch hs
  refine ⟨PySem.W.fnOf "law" "law" (defArgs s_law) (defBody s_law) (defScope s_law) .none kV50 dc50 pm50 an50 cd50 ct50, fun s v => .of_eq rfl, fun base _ _ => ?_⟩
  have G_l_alike := ok_l_alike (P := l.prog) (w := w) (mg := mg) (base := base) (ct := (ctOf c_NoDraw c_CountError c_NoNumber c_TooMany c_Maker c_WholeMaker c_TextMaker c_RowMaker c_ManyMaker c_RisingMaker c_UnlikeMaker c_AlikeMaker c_PickMaker c_UseMaker c_Tables)) F_l_alike Z_bool Z_int Z_isinstance Z_len Z_list Z_str Z_zip
  have G_l_cell_at := ok_l_cell_at (P := l.prog) (w := w) (mg := mg) (base := base) (ct := (ctOf c_NoDraw c_CountError c_NoNumber c_TooMany c_Maker c_WholeMaker c_TextMaker c_RowMaker c_ManyMaker c_RisingMaker c_UnlikeMaker c_AlikeMaker c_PickMaker c_UseMaker c_Tables)) F_l_cell_at Z_len
  have G_l_count := ok_l_count (P := l.prog) (w := w) (mg := mg) (base := base) (ct := (ctOf c_NoDraw c_CountError c_NoNumber c_TooMany c_Maker c_WholeMaker c_TextMaker c_RowMaker c_ManyMaker c_RisingMaker c_UnlikeMaker c_AlikeMaker c_PickMaker c_UseMaker c_Tables)) F_l_count Z_len Z_max Z_min Z_range
  have G_Maker___init__ := ok_Maker___init__ (P := l.prog) (w := w) (mg := mg) (base := base) (ct := (ctOf c_NoDraw c_CountError c_NoNumber c_TooMany c_Maker c_WholeMaker c_TextMaker c_RowMaker c_ManyMaker c_RisingMaker c_UnlikeMaker c_AlikeMaker c_PickMaker c_UseMaker c_Tables)) F_Maker___init__ AT_counts AT_within
  have G_AlikeMaker___init__ := ok_AlikeMaker___init__ (P := l.prog) (w := w) (mg := mg) (base := base) (ct := (ctOf c_NoDraw c_CountError c_NoNumber c_TooMany c_Maker c_WholeMaker c_TextMaker c_RowMaker c_ManyMaker c_RisingMaker c_UnlikeMaker c_AlikeMaker c_PickMaker c_UseMaker c_Tables)) F_AlikeMaker___init__ G_Maker___init__ B_Maker___init__ (⟨Cfg_Maker___init__, Cfr_Maker___init__, Cfa_Maker___init__, K_Maker___init__⟩ : CfOk K ((ctOf c_NoDraw c_CountError c_NoNumber c_TooMany c_Maker c_WholeMaker c_TextMaker c_RowMaker c_ManyMaker c_RisingMaker c_UnlikeMaker c_AlikeMaker c_PickMaker c_UseMaker c_Tables) "Maker") _ _) AT_times (PySem.W.mg_of X G Cg_Maker)
  have G_PickMaker___init__ := ok_PickMaker___init__ (P := l.prog) (w := w) (mg := mg) (base := base) (ct := (ctOf c_NoDraw c_CountError c_NoNumber c_TooMany c_Maker c_WholeMaker c_TextMaker c_RowMaker c_ManyMaker c_RisingMaker c_UnlikeMaker c_AlikeMaker c_PickMaker c_UseMaker c_Tables)) F_PickMaker___init__ G_Maker___init__ B_Maker___init__ (⟨Cfg_Maker___init__, Cfr_Maker___init__, Cfa_Maker___init__, K_Maker___init__⟩ : CfOk K ((ctOf c_NoDraw c_CountError c_NoNumber c_TooMany c_Maker c_WholeMaker c_TextMaker c_RowMaker c_ManyMaker c_RisingMaker c_UnlikeMaker c_AlikeMaker c_PickMaker c_UseMaker c_Tables) "Maker") _ _) AT_marks (PySem.W.mg_of X G Cg_Maker)
  have G_RisingMaker___init__ := ok_RisingMaker___init__ (P := l.prog) (w := w) (mg := mg) (base := base) (ct := (ctOf c_NoDraw c_CountError c_NoNumber c_TooMany c_Maker c_WholeMaker c_TextMaker c_RowMaker c_ManyMaker c_RisingMaker c_UnlikeMaker c_AlikeMaker c_PickMaker c_UseMaker c_Tables)) F_RisingMaker___init__ G_Maker___init__ B_Maker___init__ (⟨Cfg_Maker___init__, Cfr_Maker___init__, Cfa_Maker___init__, K_Maker___init__⟩ : CfOk K ((ctOf c_NoDraw c_CountError c_NoNumber c_TooMany c_Maker c_WholeMaker c_TextMaker c_RowMaker c_ManyMaker c_RisingMaker c_UnlikeMaker c_AlikeMaker c_PickMaker c_UseMaker c_Tables) "Maker") _ _) AT_ways (PySem.W.mg_of X G Cg_Maker)
  have G_RowMaker___init__ := ok_RowMaker___init__ (P := l.prog) (w := w) (mg := mg) (base := base) (ct := (ctOf c_NoDraw c_CountError c_NoNumber c_TooMany c_Maker c_WholeMaker c_TextMaker c_RowMaker c_ManyMaker c_RisingMaker c_UnlikeMaker c_AlikeMaker c_PickMaker c_UseMaker c_Tables)) F_RowMaker___init__ G_Maker___init__ B_Maker___init__ (⟨Cfg_Maker___init__, Cfr_Maker___init__, Cfa_Maker___init__, K_Maker___init__⟩ : CfOk K ((ctOf c_NoDraw c_CountError c_NoNumber c_TooMany c_Maker c_WholeMaker c_TextMaker c_RowMaker c_ManyMaker c_RisingMaker c_UnlikeMaker c_AlikeMaker c_PickMaker c_UseMaker c_Tables) "Maker") _ _) AT_rests Z_len Z_range (PySem.W.mg_of X G Cg_Maker)
  have G_TextMaker___init__ := ok_TextMaker___init__ (P := l.prog) (w := w) (mg := mg) (base := base) (ct := (ctOf c_NoDraw c_CountError c_NoNumber c_TooMany c_Maker c_WholeMaker c_TextMaker c_RowMaker c_ManyMaker c_RisingMaker c_UnlikeMaker c_AlikeMaker c_PickMaker c_UseMaker c_Tables)) F_TextMaker___init__ G_Maker___init__ B_Maker___init__ (⟨Cfg_Maker___init__, Cfr_Maker___init__, Cfa_Maker___init__, K_Maker___init__⟩ : CfOk K ((ctOf c_NoDraw c_CountError c_NoNumber c_TooMany c_Maker c_WholeMaker c_TextMaker c_RowMaker c_ManyMaker c_RisingMaker c_UnlikeMaker c_AlikeMaker c_PickMaker c_UseMaker c_Tables) "Maker") _ _) AT_signs (PySem.W.mg_of X G Cg_Maker)
  have G_UseMaker___init__ := ok_UseMaker___init__ (P := l.prog) (w := w) (mg := mg) (base := base) (ct := (ctOf c_NoDraw c_CountError c_NoNumber c_TooMany c_Maker c_WholeMaker c_TextMaker c_RowMaker c_ManyMaker c_RisingMaker c_UnlikeMaker c_AlikeMaker c_PickMaker c_UseMaker c_Tables)) F_UseMaker___init__ G_Maker___init__ B_Maker___init__ (⟨Cfg_Maker___init__, Cfr_Maker___init__, Cfa_Maker___init__, K_Maker___init__⟩ : CfOk K ((ctOf c_NoDraw c_CountError c_NoNumber c_TooMany c_Maker c_WholeMaker c_TextMaker c_RowMaker c_ManyMaker c_RisingMaker c_UnlikeMaker c_AlikeMaker c_PickMaker c_UseMaker c_Tables) "Maker") _ _) AT_name AT_named (PySem.W.mg_of X G Cg_Maker)
  have G_WholeMaker___init__ := ok_WholeMaker___init__ (P := l.prog) (w := w) (mg := mg) (base := base) (ct := (ctOf c_NoDraw c_CountError c_NoNumber c_TooMany c_Maker c_WholeMaker c_TextMaker c_RowMaker c_ManyMaker c_RisingMaker c_UnlikeMaker c_AlikeMaker c_PickMaker c_UseMaker c_Tables)) F_WholeMaker___init__ G_Maker___init__ B_Maker___init__ (⟨Cfg_Maker___init__, Cfr_Maker___init__, Cfa_Maker___init__, K_Maker___init__⟩ : CfOk K ((ctOf c_NoDraw c_CountError c_NoNumber c_TooMany c_Maker c_WholeMaker c_TextMaker c_RowMaker c_ManyMaker c_RisingMaker c_UnlikeMaker c_AlikeMaker c_PickMaker c_UseMaker c_Tables) "Maker") _ _) AT_low AT_span (PySem.W.mg_of X G Cg_Maker)
  have Q_maker_of : ∀ n : Nat, FnOk l.prog w K mg base (L2.CX l.prog w) (3 + n) a_maker_of (PySem.W.fnOf "maker_of" "maker_of" (defArgs s_maker_of) (defBody s_maker_of) (defScope s_maker_of) .none kV11 dc11 pm11 an11 cd11 ct11) P_maker_of (spG K (ctOf c_NoDraw c_CountError c_NoNumber c_TooMany c_Maker c_WholeMaker c_TextMaker c_RowMaker c_ManyMaker c_RisingMaker c_UnlikeMaker c_AlikeMaker c_PickMaker c_UseMaker c_Tables) 2 (S_maker_of n)) := by
    intro n
    induction n with
    | zero => exact (fn_zero (ps := P_maker_of)).mono (Nat.zero_le _)
    | succ n ih =>
      have G_maker_of := ih
      exact ok_maker_of (P := l.prog) (w := w) (mg := mg) (base := base) (ct := (ctOf c_NoDraw c_CountError c_NoNumber c_TooMany c_Maker c_WholeMaker c_TextMaker c_RowMaker c_ManyMaker c_RisingMaker c_UnlikeMaker c_AlikeMaker c_PickMaker c_UseMaker c_Tables)) F_maker_of (Nat.le_add_right _ _) G_maker_of M_maker_of K_maker_of B_maker_of G_AlikeMaker___init__ B_AlikeMaker___init__ G_Maker___init__ B_Maker___init__ G_PickMaker___init__ B_PickMaker___init__ G_RisingMaker___init__ B_RisingMaker___init__ G_RowMaker___init__ B_RowMaker___init__ G_TextMaker___init__ B_TextMaker___init__ G_UseMaker___init__ B_UseMaker___init__ G_WholeMaker___init__ B_WholeMaker___init__ (⟨Om_AlikeMaker, Oi_AlikeMaker, If_AlikeMaker___init__, Ok_AlikeMaker⟩ : Mk K ((ctOf c_NoDraw c_CountError c_NoNumber c_TooMany c_Maker c_WholeMaker c_TextMaker c_RowMaker c_ManyMaker c_RisingMaker c_UnlikeMaker c_AlikeMaker c_PickMaker c_UseMaker c_Tables) "AlikeMaker") _) (⟨Om_ManyMaker, Oi_ManyMaker, If_Maker___init__, Ok_ManyMaker⟩ : Mk K ((ctOf c_NoDraw c_CountError c_NoNumber c_TooMany c_Maker c_WholeMaker c_TextMaker c_RowMaker c_ManyMaker c_RisingMaker c_UnlikeMaker c_AlikeMaker c_PickMaker c_UseMaker c_Tables) "ManyMaker") _) (⟨Om_PickMaker, Oi_PickMaker, If_PickMaker___init__, Ok_PickMaker⟩ : Mk K ((ctOf c_NoDraw c_CountError c_NoNumber c_TooMany c_Maker c_WholeMaker c_TextMaker c_RowMaker c_ManyMaker c_RisingMaker c_UnlikeMaker c_AlikeMaker c_PickMaker c_UseMaker c_Tables) "PickMaker") _) (⟨Om_RisingMaker, Oi_RisingMaker, If_RisingMaker___init__, Ok_RisingMaker⟩ : Mk K ((ctOf c_NoDraw c_CountError c_NoNumber c_TooMany c_Maker c_WholeMaker c_TextMaker c_RowMaker c_ManyMaker c_RisingMaker c_UnlikeMaker c_AlikeMaker c_PickMaker c_UseMaker c_Tables) "RisingMaker") _) (⟨Om_RowMaker, Oi_RowMaker, If_RowMaker___init__, Ok_RowMaker⟩ : Mk K ((ctOf c_NoDraw c_CountError c_NoNumber c_TooMany c_Maker c_WholeMaker c_TextMaker c_RowMaker c_ManyMaker c_RisingMaker c_UnlikeMaker c_AlikeMaker c_PickMaker c_UseMaker c_Tables) "RowMaker") _) (⟨Om_TextMaker, Oi_TextMaker, If_TextMaker___init__, Ok_TextMaker⟩ : Mk K ((ctOf c_NoDraw c_CountError c_NoNumber c_TooMany c_Maker c_WholeMaker c_TextMaker c_RowMaker c_ManyMaker c_RisingMaker c_UnlikeMaker c_AlikeMaker c_PickMaker c_UseMaker c_Tables) "TextMaker") _) (⟨Om_UnlikeMaker, Oi_UnlikeMaker, If_RisingMaker___init__, Ok_UnlikeMaker⟩ : Mk K ((ctOf c_NoDraw c_CountError c_NoNumber c_TooMany c_Maker c_WholeMaker c_TextMaker c_RowMaker c_ManyMaker c_RisingMaker c_UnlikeMaker c_AlikeMaker c_PickMaker c_UseMaker c_Tables) "UnlikeMaker") _) (⟨Om_UseMaker, Oi_UseMaker, If_UseMaker___init__, Ok_UseMaker⟩ : Mk K ((ctOf c_NoDraw c_CountError c_NoNumber c_TooMany c_Maker c_WholeMaker c_TextMaker c_RowMaker c_ManyMaker c_RisingMaker c_UnlikeMaker c_AlikeMaker c_PickMaker c_UseMaker c_Tables) "UseMaker") _) (⟨Om_WholeMaker, Oi_WholeMaker, If_WholeMaker___init__, Ok_WholeMaker⟩ : Mk K ((ctOf c_NoDraw c_CountError c_NoNumber c_TooMany c_Maker c_WholeMaker c_TextMaker c_RowMaker c_ManyMaker c_RisingMaker c_UnlikeMaker c_AlikeMaker c_PickMaker c_UseMaker c_Tables) "WholeMaker") _) (PySem.W.mg_of X G Cg_AlikeMaker) (PySem.W.mg_of X G Cg_ManyMaker) (PySem.W.mg_of X G Cg_PickMaker) (PySem.W.mg_of X G Cg_RisingMaker) (PySem.W.mg_of X G Cg_RowMaker) (PySem.W.mg_of X G Cg_TextMaker) (PySem.W.mg_of X G Cg_UnlikeMaker) (PySem.W.mg_of X G Cg_UseMaker) (PySem.W.mg_of X G Cg_WholeMaker)
  have G_maker_of := Q_maker_of 20
  have G_Tables___init__ := ok_Tables___init__ (P := l.prog) (w := w) (mg := mg) (base := base) (ct := (ctOf c_NoDraw c_CountError c_NoNumber c_TooMany c_Maker c_WholeMaker c_TextMaker c_RowMaker c_ManyMaker c_RisingMaker c_UnlikeMaker c_AlikeMaker c_PickMaker c_UseMaker c_Tables)) F_Tables___init__ G_maker_of M_maker_of K_maker_of B_maker_of AT_named AT_top
  have G_Tables_counts_at := ok_Tables_counts_at (P := l.prog) (w := w) (mg := mg) (base := base) (ct := (ctOf c_NoDraw c_CountError c_NoNumber c_TooMany c_Maker c_WholeMaker c_TextMaker c_RowMaker c_ManyMaker c_RisingMaker c_UnlikeMaker c_AlikeMaker c_PickMaker c_UseMaker c_Tables)) F_Tables_counts_at AT_counts AT_top
  have G_AlikeMaker_next_count := ok_AlikeMaker_next_count (P := l.prog) (w := w) (mg := mg) (base := base) (ct := (ctOf c_NoDraw c_CountError c_NoNumber c_TooMany c_Maker c_WholeMaker c_TextMaker c_RowMaker c_ManyMaker c_RisingMaker c_UnlikeMaker c_AlikeMaker c_PickMaker c_UseMaker c_Tables)) F_AlikeMaker_next_count AT_counts AT_times AT_within
  have G_ManyMaker_next_count := ok_ManyMaker_next_count (P := l.prog) (w := w) (mg := mg) (base := base) (ct := (ctOf c_NoDraw c_CountError c_NoNumber c_TooMany c_Maker c_WholeMaker c_TextMaker c_RowMaker c_ManyMaker c_RisingMaker c_UnlikeMaker c_AlikeMaker c_PickMaker c_UseMaker c_Tables)) F_ManyMaker_next_count AT_counts AT_within Z_range Z_sum
  have G_PickMaker_next_count := ok_PickMaker_next_count (P := l.prog) (w := w) (mg := mg) (base := base) (ct := (ctOf c_NoDraw c_CountError c_NoNumber c_TooMany c_Maker c_WholeMaker c_TextMaker c_RowMaker c_ManyMaker c_RisingMaker c_UnlikeMaker c_AlikeMaker c_PickMaker c_UseMaker c_Tables)) F_PickMaker_next_count AT_counts AT_within Z_sum
  have G_RisingMaker_beyond := ok_RisingMaker_beyond (P := l.prog) (w := w) (mg := mg) (base := base) (ct := (ctOf c_NoDraw c_CountError c_NoNumber c_TooMany c_Maker c_WholeMaker c_TextMaker c_RowMaker c_ManyMaker c_RisingMaker c_UnlikeMaker c_AlikeMaker c_PickMaker c_UseMaker c_Tables)) F_RisingMaker_beyond AT_ways
  have G_sets_among := ok_sets_among (P := l.prog) (w := w) (mg := mg) (base := base) (ct := (ctOf c_NoDraw c_CountError c_NoNumber c_TooMany c_Maker c_WholeMaker c_TextMaker c_RowMaker c_ManyMaker c_RisingMaker c_UnlikeMaker c_AlikeMaker c_PickMaker c_UseMaker c_Tables)) F_sets_among Z_min Z_range
  have G_bags_among := ok_bags_among (P := l.prog) (w := w) (mg := mg) (base := base) (ct := (ctOf c_NoDraw c_CountError c_NoNumber c_TooMany c_Maker c_WholeMaker c_TextMaker c_RowMaker c_ManyMaker c_RisingMaker c_UnlikeMaker c_AlikeMaker c_PickMaker c_UseMaker c_Tables)) F_bags_among G_sets_among M_sets_among K_sets_among B_sets_among
  have G_RisingMaker_among := ok_RisingMaker_among (P := l.prog) (w := w) (mg := mg) (base := base) (ct := (ctOf c_NoDraw c_CountError c_NoNumber c_TooMany c_Maker c_WholeMaker c_TextMaker c_RowMaker c_ManyMaker c_RisingMaker c_UnlikeMaker c_AlikeMaker c_PickMaker c_UseMaker c_Tables)) F_RisingMaker_among G_bags_among M_bags_among K_bags_among B_bags_among
  have G_UnlikeMaker_among := ok_UnlikeMaker_among (P := l.prog) (w := w) (mg := mg) (base := base) (ct := (ctOf c_NoDraw c_CountError c_NoNumber c_TooMany c_Maker c_WholeMaker c_TextMaker c_RowMaker c_ManyMaker c_RisingMaker c_UnlikeMaker c_AlikeMaker c_PickMaker c_UseMaker c_Tables)) F_UnlikeMaker_among G_sets_among M_sets_among K_sets_among B_sets_among
  have G_RisingMaker_block := ok_RisingMaker_block (P := l.prog) (w := w) (mg := mg) (base := base) (ct := (ctOf c_NoDraw c_CountError c_NoNumber c_TooMany c_Maker c_WholeMaker c_TextMaker c_RowMaker c_ManyMaker c_RisingMaker c_UnlikeMaker c_AlikeMaker c_PickMaker c_UseMaker c_Tables)) F_RisingMaker_block (mts_among (ct := (ctOf c_NoDraw c_CountError c_NoNumber c_TooMany c_Maker c_WholeMaker c_TextMaker c_RowMaker c_ManyMaker c_RisingMaker c_UnlikeMaker c_AlikeMaker c_PickMaker c_UseMaker c_Tables)) (G_RisingMaker_among.mono (show 3 ≤ 3 by decide)) B_RisingMaker_among (G_UnlikeMaker_among.mono (show 2 ≤ 3 by decide)) B_UnlikeMaker_among CL_RisingMaker ⟨Ov_RisingMaker_among, If_RisingMaker_among, K_RisingMaker_among⟩ CL_UnlikeMaker ⟨Ov_UnlikeMaker_among, If_UnlikeMaker_among, K_UnlikeMaker_among⟩) (mts_beyond (ct := (ctOf c_NoDraw c_CountError c_NoNumber c_TooMany c_Maker c_WholeMaker c_TextMaker c_RowMaker c_ManyMaker c_RisingMaker c_UnlikeMaker c_AlikeMaker c_PickMaker c_UseMaker c_Tables)) (G_RisingMaker_beyond.mono (show 1 ≤ 1 by decide)) B_RisingMaker_beyond CL_RisingMaker ⟨Ov_RisingMaker_beyond, If_RisingMaker_beyond, K_RisingMaker_beyond⟩ CL_UnlikeMaker ⟨Ov_UnlikeMaker_beyond, If_RisingMaker_beyond, K_RisingMaker_beyond⟩) AT_counts AT_within
  have G_RisingMaker_next_count := ok_RisingMaker_next_count (P := l.prog) (w := w) (mg := mg) (base := base) (ct := (ctOf c_NoDraw c_CountError c_NoNumber c_TooMany c_Maker c_WholeMaker c_TextMaker c_RowMaker c_ManyMaker c_RisingMaker c_UnlikeMaker c_AlikeMaker c_PickMaker c_UseMaker c_Tables)) F_RisingMaker_next_count (mts_beyond (ct := (ctOf c_NoDraw c_CountError c_NoNumber c_TooMany c_Maker c_WholeMaker c_TextMaker c_RowMaker c_ManyMaker c_RisingMaker c_UnlikeMaker c_AlikeMaker c_PickMaker c_UseMaker c_Tables)) (G_RisingMaker_beyond.mono (show 1 ≤ 1 by decide)) B_RisingMaker_beyond CL_RisingMaker ⟨Ov_RisingMaker_beyond, If_RisingMaker_beyond, K_RisingMaker_beyond⟩ CL_UnlikeMaker ⟨Ov_UnlikeMaker_beyond, If_RisingMaker_beyond, K_RisingMaker_beyond⟩) (mts_block (ct := (ctOf c_NoDraw c_CountError c_NoNumber c_TooMany c_Maker c_WholeMaker c_TextMaker c_RowMaker c_ManyMaker c_RisingMaker c_UnlikeMaker c_AlikeMaker c_PickMaker c_UseMaker c_Tables)) (G_RisingMaker_block.mono (show 4 ≤ 4 by decide)) B_RisingMaker_block CL_RisingMaker ⟨Ov_RisingMaker_block, If_RisingMaker_block, K_RisingMaker_block⟩ CL_UnlikeMaker ⟨Ov_UnlikeMaker_block, If_RisingMaker_block, K_RisingMaker_block⟩) AT_ways Z_range Z_sum
  have G_RowMaker_next_count := ok_RowMaker_next_count (P := l.prog) (w := w) (mg := mg) (base := base) (ct := (ctOf c_NoDraw c_CountError c_NoNumber c_TooMany c_Maker c_WholeMaker c_TextMaker c_RowMaker c_ManyMaker c_RisingMaker c_UnlikeMaker c_AlikeMaker c_PickMaker c_UseMaker c_Tables)) F_RowMaker_next_count AT_counts AT_rests AT_within Z_int Z_len Z_range Z_sum
  have G_TextMaker_next_count := ok_TextMaker_next_count (P := l.prog) (w := w) (mg := mg) (base := base) (ct := (ctOf c_NoDraw c_CountError c_NoNumber c_TooMany c_Maker c_WholeMaker c_TextMaker c_RowMaker c_ManyMaker c_RisingMaker c_UnlikeMaker c_AlikeMaker c_PickMaker c_UseMaker c_Tables)) F_TextMaker_next_count AT_counts AT_signs Z_len
  have G_UseMaker_next_count := ok_UseMaker_next_count (P := l.prog) (w := w) (mg := mg) (base := base) (ct := (ctOf c_NoDraw c_CountError c_NoNumber c_TooMany c_Maker c_WholeMaker c_TextMaker c_RowMaker c_ManyMaker c_RisingMaker c_UnlikeMaker c_AlikeMaker c_PickMaker c_UseMaker c_Tables)) F_UseMaker_next_count AT_counts AT_name AT_named
  have G_WholeMaker_next_count := ok_WholeMaker_next_count (P := l.prog) (w := w) (mg := mg) (base := base) (ct := (ctOf c_NoDraw c_CountError c_NoNumber c_TooMany c_Maker c_WholeMaker c_TextMaker c_RowMaker c_ManyMaker c_RisingMaker c_UnlikeMaker c_AlikeMaker c_PickMaker c_UseMaker c_Tables)) F_WholeMaker_next_count AT_span Z_max Z_min
  have Q_Maker_grow : ∀ n : Nat, FnOk l.prog w K mg base (L2.CX l.prog w) (5 + n) a_Maker_grow (PySem.W.fnOf "grow" "Maker.grow" (defArgs s_Maker_grow) (defBody s_Maker_grow) (defScope s_Maker_grow) .none kV28 dc28 pm28 an28 cd28 ct28) P_Maker_grow (spG K (ctOf c_NoDraw c_CountError c_NoNumber c_TooMany c_Maker c_WholeMaker c_TextMaker c_RowMaker c_ManyMaker c_RisingMaker c_UnlikeMaker c_AlikeMaker c_PickMaker c_UseMaker c_Tables) 1 (S_Maker_grow n)) := by
    intro n
    induction n with
    | zero => exact (fn_zero (ps := P_Maker_grow)).mono (Nat.zero_le _)
    | succ n ih =>
      have G_Maker_grow := ih
      exact ok_Maker_grow (P := l.prog) (w := w) (mg := mg) (base := base) (ct := (ctOf c_NoDraw c_CountError c_NoNumber c_TooMany c_Maker c_WholeMaker c_TextMaker c_RowMaker c_ManyMaker c_RisingMaker c_UnlikeMaker c_AlikeMaker c_PickMaker c_UseMaker c_Tables)) F_Maker_grow (Nat.le_add_right _ _) (mts_grow (ct := (ctOf c_NoDraw c_CountError c_NoNumber c_TooMany c_Maker c_WholeMaker c_TextMaker c_RowMaker c_ManyMaker c_RisingMaker c_UnlikeMaker c_AlikeMaker c_PickMaker c_UseMaker c_Tables)) G_Maker_grow B_Maker_grow CL_WholeMaker ⟨Ov_WholeMaker_grow, If_Maker_grow, K_Maker_grow⟩ CL_TextMaker ⟨Ov_TextMaker_grow, If_Maker_grow, K_Maker_grow⟩ CL_RowMaker ⟨Ov_RowMaker_grow, If_Maker_grow, K_Maker_grow⟩ CL_ManyMaker ⟨Ov_ManyMaker_grow, If_Maker_grow, K_Maker_grow⟩ CL_RisingMaker ⟨Ov_RisingMaker_grow, If_Maker_grow, K_Maker_grow⟩ CL_UnlikeMaker ⟨Ov_UnlikeMaker_grow, If_Maker_grow, K_Maker_grow⟩ CL_AlikeMaker ⟨Ov_AlikeMaker_grow, If_Maker_grow, K_Maker_grow⟩ CL_PickMaker ⟨Ov_PickMaker_grow, If_Maker_grow, K_Maker_grow⟩ CL_UseMaker ⟨Ov_UseMaker_grow, If_Maker_grow, K_Maker_grow⟩) (mts_next_count (ct := (ctOf c_NoDraw c_CountError c_NoNumber c_TooMany c_Maker c_WholeMaker c_TextMaker c_RowMaker c_ManyMaker c_RisingMaker c_UnlikeMaker c_AlikeMaker c_PickMaker c_UseMaker c_Tables)) (G_WholeMaker_next_count.mono (show 1 ≤ 5 by decide)) B_WholeMaker_next_count (G_TextMaker_next_count.mono (show 1 ≤ 5 by decide)) B_TextMaker_next_count (G_RowMaker_next_count.mono (show 1 ≤ 5 by decide)) B_RowMaker_next_count (G_ManyMaker_next_count.mono (show 1 ≤ 5 by decide)) B_ManyMaker_next_count (G_RisingMaker_next_count.mono (show 5 ≤ 5 by decide)) B_RisingMaker_next_count (G_AlikeMaker_next_count.mono (show 1 ≤ 5 by decide)) B_AlikeMaker_next_count (G_PickMaker_next_count.mono (show 1 ≤ 5 by decide)) B_PickMaker_next_count (G_UseMaker_next_count.mono (show 1 ≤ 5 by decide)) B_UseMaker_next_count CL_WholeMaker ⟨Ov_WholeMaker_next_count, If_WholeMaker_next_count, K_WholeMaker_next_count⟩ CL_TextMaker ⟨Ov_TextMaker_next_count, If_TextMaker_next_count, K_TextMaker_next_count⟩ CL_RowMaker ⟨Ov_RowMaker_next_count, If_RowMaker_next_count, K_RowMaker_next_count⟩ CL_ManyMaker ⟨Ov_ManyMaker_next_count, If_ManyMaker_next_count, K_ManyMaker_next_count⟩ CL_RisingMaker ⟨Ov_RisingMaker_next_count, If_RisingMaker_next_count, K_RisingMaker_next_count⟩ CL_UnlikeMaker ⟨Ov_UnlikeMaker_next_count, If_RisingMaker_next_count, K_RisingMaker_next_count⟩ CL_AlikeMaker ⟨Ov_AlikeMaker_next_count, If_AlikeMaker_next_count, K_AlikeMaker_next_count⟩ CL_PickMaker ⟨Ov_PickMaker_next_count, If_PickMaker_next_count, K_PickMaker_next_count⟩ CL_UseMaker ⟨Ov_UseMaker_next_count, If_UseMaker_next_count, K_UseMaker_next_count⟩) AT_counts AT_within Z_len
  have G_Maker_grow := Q_Maker_grow 20
  have G_Tables_grow_to := ok_Tables_grow_to (P := l.prog) (w := w) (mg := mg) (base := base) (ct := (ctOf c_NoDraw c_CountError c_NoNumber c_TooMany c_Maker c_WholeMaker c_TextMaker c_RowMaker c_ManyMaker c_RisingMaker c_UnlikeMaker c_AlikeMaker c_PickMaker c_UseMaker c_Tables)) F_Tables_grow_to (mts_grow (ct := (ctOf c_NoDraw c_CountError c_NoNumber c_TooMany c_Maker c_WholeMaker c_TextMaker c_RowMaker c_ManyMaker c_RisingMaker c_UnlikeMaker c_AlikeMaker c_PickMaker c_UseMaker c_Tables)) (G_Maker_grow.mono (show 25 ≤ 25 by decide)) B_Maker_grow CL_WholeMaker ⟨Ov_WholeMaker_grow, If_Maker_grow, K_Maker_grow⟩ CL_TextMaker ⟨Ov_TextMaker_grow, If_Maker_grow, K_Maker_grow⟩ CL_RowMaker ⟨Ov_RowMaker_grow, If_Maker_grow, K_Maker_grow⟩ CL_ManyMaker ⟨Ov_ManyMaker_grow, If_Maker_grow, K_Maker_grow⟩ CL_RisingMaker ⟨Ov_RisingMaker_grow, If_Maker_grow, K_Maker_grow⟩ CL_UnlikeMaker ⟨Ov_UnlikeMaker_grow, If_Maker_grow, K_Maker_grow⟩ CL_AlikeMaker ⟨Ov_AlikeMaker_grow, If_Maker_grow, K_Maker_grow⟩ CL_PickMaker ⟨Ov_PickMaker_grow, If_Maker_grow, K_Maker_grow⟩ CL_UseMaker ⟨Ov_UseMaker_grow, If_Maker_grow, K_Maker_grow⟩) AT_counts AT_named AT_top Z_len
  have G_greatest_below := ok_greatest_below (P := l.prog) (w := w) (mg := mg) (base := base) (ct := (ctOf c_NoDraw c_CountError c_NoNumber c_TooMany c_Maker c_WholeMaker c_TextMaker c_RowMaker c_ManyMaker c_RisingMaker c_UnlikeMaker c_AlikeMaker c_PickMaker c_UseMaker c_Tables)) F_greatest_below G_sets_among M_sets_among K_sets_among B_sets_among
  have G_set_at := ok_set_at (P := l.prog) (w := w) (mg := mg) (base := base) (ct := (ctOf c_NoDraw c_CountError c_NoNumber c_TooMany c_Maker c_WholeMaker c_TextMaker c_RowMaker c_ManyMaker c_RisingMaker c_UnlikeMaker c_AlikeMaker c_PickMaker c_UseMaker c_Tables)) F_set_at G_greatest_below M_greatest_below K_greatest_below B_greatest_below G_sets_among M_sets_among K_sets_among B_sets_among Z_range Z_reversed
  have G_bag_at := ok_bag_at (P := l.prog) (w := w) (mg := mg) (base := base) (ct := (ctOf c_NoDraw c_CountError c_NoNumber c_TooMany c_Maker c_WholeMaker c_TextMaker c_RowMaker c_ManyMaker c_RisingMaker c_UnlikeMaker c_AlikeMaker c_PickMaker c_UseMaker c_Tables)) F_bag_at G_set_at M_set_at K_set_at B_set_at Z_enumerate
  have G_RisingMaker_chosen_at := ok_RisingMaker_chosen_at (P := l.prog) (w := w) (mg := mg) (base := base) (ct := (ctOf c_NoDraw c_CountError c_NoNumber c_TooMany c_Maker c_WholeMaker c_TextMaker c_RowMaker c_ManyMaker c_RisingMaker c_UnlikeMaker c_AlikeMaker c_PickMaker c_UseMaker c_Tables)) F_RisingMaker_chosen_at G_bag_at M_bag_at K_bag_at B_bag_at
  have G_TextMaker_told := ok_TextMaker_told (P := l.prog) (w := w) (mg := mg) (base := base) (ct := (ctOf c_NoDraw c_CountError c_NoNumber c_TooMany c_Maker c_WholeMaker c_TextMaker c_RowMaker c_ManyMaker c_RisingMaker c_UnlikeMaker c_AlikeMaker c_PickMaker c_UseMaker c_Tables)) F_TextMaker_told AT_signs Z_divmod Z_len Z_range
  have G_WholeMaker_told := ok_WholeMaker_told (P := l.prog) (w := w) (mg := mg) (base := base) (ct := (ctOf c_NoDraw c_CountError c_NoNumber c_TooMany c_Maker c_WholeMaker c_TextMaker c_RowMaker c_ManyMaker c_RisingMaker c_UnlikeMaker c_AlikeMaker c_PickMaker c_UseMaker c_Tables)) F_WholeMaker_told AT_low
  have G_first_taken := ok_first_taken (P := l.prog) (w := w) (mg := mg) (base := base) (ct := (ctOf c_NoDraw c_CountError c_NoNumber c_TooMany c_Maker c_WholeMaker c_TextMaker c_RowMaker c_ManyMaker c_RisingMaker c_UnlikeMaker c_AlikeMaker c_PickMaker c_UseMaker c_Tables)) F_first_taken Z_divmod
  have G_UnlikeMaker_chosen_at := ok_UnlikeMaker_chosen_at (P := l.prog) (w := w) (mg := mg) (base := base) (ct := (ctOf c_NoDraw c_CountError c_NoNumber c_TooMany c_Maker c_WholeMaker c_TextMaker c_RowMaker c_ManyMaker c_RisingMaker c_UnlikeMaker c_AlikeMaker c_PickMaker c_UseMaker c_Tables)) F_UnlikeMaker_chosen_at G_set_at M_set_at K_set_at B_set_at
  have Q_AlikeMaker_told : ∀ n : Nat, FnOk l.prog w K mg base (L2.CX l.prog w) (5 + n) a_AlikeMaker_told (PySem.W.fnOf "told" "AlikeMaker.told" (defArgs s_AlikeMaker_told) (defBody s_AlikeMaker_told) (defScope s_AlikeMaker_told) .none kV43 dc43 pm43 an43 cd43 ct43) P_AlikeMaker_told (spG K (ctOf c_NoDraw c_CountError c_NoNumber c_TooMany c_Maker c_WholeMaker c_TextMaker c_RowMaker c_ManyMaker c_RisingMaker c_UnlikeMaker c_AlikeMaker c_PickMaker c_UseMaker c_Tables) 3 (S_AlikeMaker_told n)) ∧ FnOk l.prog w K mg base (L2.CX l.prog w) (5 + n) a_ManyMaker_told (PySem.W.fnOf "told" "ManyMaker.told" (defArgs s_ManyMaker_told) (defBody s_ManyMaker_told) (defScope s_ManyMaker_told) .none kV42 dc42 pm42 an42 cd42 ct42) P_ManyMaker_told (spG K (ctOf c_NoDraw c_CountError c_NoNumber c_TooMany c_Maker c_WholeMaker c_TextMaker c_RowMaker c_ManyMaker c_RisingMaker c_UnlikeMaker c_AlikeMaker c_PickMaker c_UseMaker c_Tables) 3 (S_ManyMaker_told n)) ∧ FnOk l.prog w K mg base (L2.CX l.prog w) (5 + n) a_PickMaker_told (PySem.W.fnOf "told" "PickMaker.told" (defArgs s_PickMaker_told) (defBody s_PickMaker_told) (defScope s_PickMaker_told) .none kV41 dc41 pm41 an41 cd41 ct41) P_PickMaker_told (spG K (ctOf c_NoDraw c_CountError c_NoNumber c_TooMany c_Maker c_WholeMaker c_TextMaker c_RowMaker c_ManyMaker c_RisingMaker c_UnlikeMaker c_AlikeMaker c_PickMaker c_UseMaker c_Tables) 3 (S_PickMaker_told n)) ∧ FnOk l.prog w K mg base (L2.CX l.prog w) (5 + n) a_RisingMaker_told (PySem.W.fnOf "told" "RisingMaker.told" (defArgs s_RisingMaker_told) (defBody s_RisingMaker_told) (defScope s_RisingMaker_told) .none kV40 dc40 pm40 an40 cd40 ct40) P_RisingMaker_told (spG K (ctOf c_NoDraw c_CountError c_NoNumber c_TooMany c_Maker c_WholeMaker c_TextMaker c_RowMaker c_ManyMaker c_RisingMaker c_UnlikeMaker c_AlikeMaker c_PickMaker c_UseMaker c_Tables) 3 (S_RisingMaker_told n)) ∧ FnOk l.prog w K mg base (L2.CX l.prog w) (5 + n) a_RowMaker_told (PySem.W.fnOf "told" "RowMaker.told" (defArgs s_RowMaker_told) (defBody s_RowMaker_told) (defScope s_RowMaker_told) .none kV39 dc39 pm39 an39 cd39 ct39) P_RowMaker_told (spG K (ctOf c_NoDraw c_CountError c_NoNumber c_TooMany c_Maker c_WholeMaker c_TextMaker c_RowMaker c_ManyMaker c_RisingMaker c_UnlikeMaker c_AlikeMaker c_PickMaker c_UseMaker c_Tables) 3 (S_RowMaker_told n)) ∧ FnOk l.prog w K mg base (L2.CX l.prog w) (5 + n) a_UseMaker_told (PySem.W.fnOf "told" "UseMaker.told" (defArgs s_UseMaker_told) (defBody s_UseMaker_told) (defScope s_UseMaker_told) .none kV38 dc38 pm38 an38 cd38 ct38) P_UseMaker_told (spG K (ctOf c_NoDraw c_CountError c_NoNumber c_TooMany c_Maker c_WholeMaker c_TextMaker c_RowMaker c_ManyMaker c_RisingMaker c_UnlikeMaker c_AlikeMaker c_PickMaker c_UseMaker c_Tables) 3 (S_UseMaker_told n)) := by
    intro n
    induction n with
    | zero => exact ⟨(fn_zero (ps := P_AlikeMaker_told)).mono (Nat.zero_le _), (fn_zero (ps := P_ManyMaker_told)).mono (Nat.zero_le _), (fn_zero (ps := P_PickMaker_told)).mono (Nat.zero_le _), (fn_zero (ps := P_RisingMaker_told)).mono (Nat.zero_le _), (fn_zero (ps := P_RowMaker_told)).mono (Nat.zero_le _), (fn_zero (ps := P_UseMaker_told)).mono (Nat.zero_le _)⟩
    | succ n ih =>
      obtain ⟨G_AlikeMaker_told, G_ManyMaker_told, G_PickMaker_told, G_RisingMaker_told, G_RowMaker_told, G_UseMaker_told⟩ := ih
      exact ⟨ok_AlikeMaker_told (P := l.prog) (w := w) (mg := mg) (base := base) (ct := (ctOf c_NoDraw c_CountError c_NoNumber c_TooMany c_Maker c_WholeMaker c_TextMaker c_RowMaker c_ManyMaker c_RisingMaker c_UnlikeMaker c_AlikeMaker c_PickMaker c_UseMaker c_Tables)) F_AlikeMaker_told (Nat.le_add_right _ _) (mts_told (ct := (ctOf c_NoDraw c_CountError c_NoNumber c_TooMany c_Maker c_WholeMaker c_TextMaker c_RowMaker c_ManyMaker c_RisingMaker c_UnlikeMaker c_AlikeMaker c_PickMaker c_UseMaker c_Tables)) (G_WholeMaker_told.mono (Nat.le_trans (show 1 ≤ 5 by decide) (Nat.le_add_right _ _))) B_WholeMaker_told (G_TextMaker_told.mono (Nat.le_trans (show 1 ≤ 5 by decide) (Nat.le_add_right _ _))) B_TextMaker_told G_RowMaker_told B_RowMaker_told G_ManyMaker_told B_ManyMaker_told G_RisingMaker_told B_RisingMaker_told G_AlikeMaker_told B_AlikeMaker_told G_PickMaker_told B_PickMaker_told G_UseMaker_told B_UseMaker_told CL_WholeMaker ⟨Ov_WholeMaker_told, If_WholeMaker_told, K_WholeMaker_told⟩ CL_TextMaker ⟨Ov_TextMaker_told, If_TextMaker_told, K_TextMaker_told⟩ CL_RowMaker ⟨Ov_RowMaker_told, If_RowMaker_told, K_RowMaker_told⟩ CL_ManyMaker ⟨Ov_ManyMaker_told, If_ManyMaker_told, K_ManyMaker_told⟩ CL_RisingMaker ⟨Ov_RisingMaker_told, If_RisingMaker_told, K_RisingMaker_told⟩ CL_UnlikeMaker ⟨Ov_UnlikeMaker_told, If_RisingMaker_told, K_RisingMaker_told⟩ CL_AlikeMaker ⟨Ov_AlikeMaker_told, If_AlikeMaker_told, K_AlikeMaker_told⟩ CL_PickMaker ⟨Ov_PickMaker_told, If_PickMaker_told, K_PickMaker_told⟩ CL_UseMaker ⟨Ov_UseMaker_told, If_UseMaker_told, K_UseMaker_told⟩) AT_times AT_within Z_range, ok_ManyMaker_told (P := l.prog) (w := w) (mg := mg) (base := base) (ct := (ctOf c_NoDraw c_CountError c_NoNumber c_TooMany c_Maker c_WholeMaker c_TextMaker c_RowMaker c_ManyMaker c_RisingMaker c_UnlikeMaker c_AlikeMaker c_PickMaker c_UseMaker c_Tables)) F_ManyMaker_told (Nat.le_add_right _ _) G_first_taken M_first_taken K_first_taken B_first_taken (mts_told (ct := (ctOf c_NoDraw c_CountError c_NoNumber c_TooMany c_Maker c_WholeMaker c_TextMaker c_RowMaker c_ManyMaker c_RisingMaker c_UnlikeMaker c_AlikeMaker c_PickMaker c_UseMaker c_Tables)) (G_WholeMaker_told.mono (Nat.le_trans (show 1 ≤ 5 by decide) (Nat.le_add_right _ _))) B_WholeMaker_told (G_TextMaker_told.mono (Nat.le_trans (show 1 ≤ 5 by decide) (Nat.le_add_right _ _))) B_TextMaker_told G_RowMaker_told B_RowMaker_told G_ManyMaker_told B_ManyMaker_told G_RisingMaker_told B_RisingMaker_told G_AlikeMaker_told B_AlikeMaker_told G_PickMaker_told B_PickMaker_told G_UseMaker_told B_UseMaker_told CL_WholeMaker ⟨Ov_WholeMaker_told, If_WholeMaker_told, K_WholeMaker_told⟩ CL_TextMaker ⟨Ov_TextMaker_told, If_TextMaker_told, K_TextMaker_told⟩ CL_RowMaker ⟨Ov_RowMaker_told, If_RowMaker_told, K_RowMaker_told⟩ CL_ManyMaker ⟨Ov_ManyMaker_told, If_ManyMaker_told, K_ManyMaker_told⟩ CL_RisingMaker ⟨Ov_RisingMaker_told, If_RisingMaker_told, K_RisingMaker_told⟩ CL_UnlikeMaker ⟨Ov_UnlikeMaker_told, If_RisingMaker_told, K_RisingMaker_told⟩ CL_AlikeMaker ⟨Ov_AlikeMaker_told, If_AlikeMaker_told, K_AlikeMaker_told⟩ CL_PickMaker ⟨Ov_PickMaker_told, If_PickMaker_told, K_PickMaker_told⟩ CL_UseMaker ⟨Ov_UseMaker_told, If_UseMaker_told, K_UseMaker_told⟩) AT_counts AT_within, ok_PickMaker_told (P := l.prog) (w := w) (mg := mg) (base := base) (ct := (ctOf c_NoDraw c_CountError c_NoNumber c_TooMany c_Maker c_WholeMaker c_TextMaker c_RowMaker c_ManyMaker c_RisingMaker c_UnlikeMaker c_AlikeMaker c_PickMaker c_UseMaker c_Tables)) F_PickMaker_told (Nat.le_add_right _ _) (mts_told (ct := (ctOf c_NoDraw c_CountError c_NoNumber c_TooMany c_Maker c_WholeMaker c_TextMaker c_RowMaker c_ManyMaker c_RisingMaker c_UnlikeMaker c_AlikeMaker c_PickMaker c_UseMaker c_Tables)) (G_WholeMaker_told.mono (Nat.le_trans (show 1 ≤ 5 by decide) (Nat.le_add_right _ _))) B_WholeMaker_told (G_TextMaker_told.mono (Nat.le_trans (show 1 ≤ 5 by decide) (Nat.le_add_right _ _))) B_TextMaker_told G_RowMaker_told B_RowMaker_told G_ManyMaker_told B_ManyMaker_told G_RisingMaker_told B_RisingMaker_told G_AlikeMaker_told B_AlikeMaker_told G_PickMaker_told B_PickMaker_told G_UseMaker_told B_UseMaker_told CL_WholeMaker ⟨Ov_WholeMaker_told, If_WholeMaker_told, K_WholeMaker_told⟩ CL_TextMaker ⟨Ov_TextMaker_told, If_TextMaker_told, K_TextMaker_told⟩ CL_RowMaker ⟨Ov_RowMaker_told, If_RowMaker_told, K_RowMaker_told⟩ CL_ManyMaker ⟨Ov_ManyMaker_told, If_ManyMaker_told, K_ManyMaker_told⟩ CL_RisingMaker ⟨Ov_RisingMaker_told, If_RisingMaker_told, K_RisingMaker_told⟩ CL_UnlikeMaker ⟨Ov_UnlikeMaker_told, If_RisingMaker_told, K_RisingMaker_told⟩ CL_AlikeMaker ⟨Ov_AlikeMaker_told, If_AlikeMaker_told, K_AlikeMaker_told⟩ CL_PickMaker ⟨Ov_PickMaker_told, If_PickMaker_told, K_PickMaker_told⟩ CL_UseMaker ⟨Ov_UseMaker_told, If_UseMaker_told, K_UseMaker_told⟩) AT_counts AT_marks AT_within, ok_RisingMaker_told (P := l.prog) (w := w) (mg := mg) (base := base) (ct := (ctOf c_NoDraw c_CountError c_NoNumber c_TooMany c_Maker c_WholeMaker c_TextMaker c_RowMaker c_ManyMaker c_RisingMaker c_UnlikeMaker c_AlikeMaker c_PickMaker c_UseMaker c_Tables)) F_RisingMaker_told (Nat.le_add_right _ _) (mts_beyond (ct := (ctOf c_NoDraw c_CountError c_NoNumber c_TooMany c_Maker c_WholeMaker c_TextMaker c_RowMaker c_ManyMaker c_RisingMaker c_UnlikeMaker c_AlikeMaker c_PickMaker c_UseMaker c_Tables)) (G_RisingMaker_beyond.mono (show 1 ≤ 1 by decide)) B_RisingMaker_beyond CL_RisingMaker ⟨Ov_RisingMaker_beyond, If_RisingMaker_beyond, K_RisingMaker_beyond⟩ CL_UnlikeMaker ⟨Ov_UnlikeMaker_beyond, If_RisingMaker_beyond, K_RisingMaker_beyond⟩) (mts_block (ct := (ctOf c_NoDraw c_CountError c_NoNumber c_TooMany c_Maker c_WholeMaker c_TextMaker c_RowMaker c_ManyMaker c_RisingMaker c_UnlikeMaker c_AlikeMaker c_PickMaker c_UseMaker c_Tables)) (G_RisingMaker_block.mono (show 4 ≤ 4 by decide)) B_RisingMaker_block CL_RisingMaker ⟨Ov_RisingMaker_block, If_RisingMaker_block, K_RisingMaker_block⟩ CL_UnlikeMaker ⟨Ov_UnlikeMaker_block, If_RisingMaker_block, K_RisingMaker_block⟩) (mts_chosen_at (ct := (ctOf c_NoDraw c_CountError c_NoNumber c_TooMany c_Maker c_WholeMaker c_TextMaker c_RowMaker c_ManyMaker c_RisingMaker c_UnlikeMaker c_AlikeMaker c_PickMaker c_UseMaker c_Tables)) (G_RisingMaker_chosen_at.mono (show 5 ≤ 5 by decide)) B_RisingMaker_chosen_at (G_UnlikeMaker_chosen_at.mono (show 4 ≤ 5 by decide)) B_UnlikeMaker_chosen_at CL_RisingMaker ⟨Ov_RisingMaker_chosen_at, If_RisingMaker_chosen_at, K_RisingMaker_chosen_at⟩ CL_UnlikeMaker ⟨Ov_UnlikeMaker_chosen_at, If_UnlikeMaker_chosen_at, K_UnlikeMaker_chosen_at⟩) (mts_told (ct := (ctOf c_NoDraw c_CountError c_NoNumber c_TooMany c_Maker c_WholeMaker c_TextMaker c_RowMaker c_ManyMaker c_RisingMaker c_UnlikeMaker c_AlikeMaker c_PickMaker c_UseMaker c_Tables)) (G_WholeMaker_told.mono (Nat.le_trans (show 1 ≤ 5 by decide) (Nat.le_add_right _ _))) B_WholeMaker_told (G_TextMaker_told.mono (Nat.le_trans (show 1 ≤ 5 by decide) (Nat.le_add_right _ _))) B_TextMaker_told G_RowMaker_told B_RowMaker_told G_ManyMaker_told B_ManyMaker_told G_RisingMaker_told B_RisingMaker_told G_AlikeMaker_told B_AlikeMaker_told G_PickMaker_told B_PickMaker_told G_UseMaker_told B_UseMaker_told CL_WholeMaker ⟨Ov_WholeMaker_told, If_WholeMaker_told, K_WholeMaker_told⟩ CL_TextMaker ⟨Ov_TextMaker_told, If_TextMaker_told, K_TextMaker_told⟩ CL_RowMaker ⟨Ov_RowMaker_told, If_RowMaker_told, K_RowMaker_told⟩ CL_ManyMaker ⟨Ov_ManyMaker_told, If_ManyMaker_told, K_ManyMaker_told⟩ CL_RisingMaker ⟨Ov_RisingMaker_told, If_RisingMaker_told, K_RisingMaker_told⟩ CL_UnlikeMaker ⟨Ov_UnlikeMaker_told, If_RisingMaker_told, K_RisingMaker_told⟩ CL_AlikeMaker ⟨Ov_AlikeMaker_told, If_AlikeMaker_told, K_AlikeMaker_told⟩ CL_PickMaker ⟨Ov_PickMaker_told, If_PickMaker_told, K_PickMaker_told⟩ CL_UseMaker ⟨Ov_UseMaker_told, If_UseMaker_told, K_UseMaker_told⟩) AT_within Z_divmod, ok_RowMaker_told (P := l.prog) (w := w) (mg := mg) (base := base) (ct := (ctOf c_NoDraw c_CountError c_NoNumber c_TooMany c_Maker c_WholeMaker c_TextMaker c_RowMaker c_ManyMaker c_RisingMaker c_UnlikeMaker c_AlikeMaker c_PickMaker c_UseMaker c_Tables)) F_RowMaker_told (Nat.le_add_right _ _) G_first_taken M_first_taken K_first_taken B_first_taken (mts_told (ct := (ctOf c_NoDraw c_CountError c_NoNumber c_TooMany c_Maker c_WholeMaker c_TextMaker c_RowMaker c_ManyMaker c_RisingMaker c_UnlikeMaker c_AlikeMaker c_PickMaker c_UseMaker c_Tables)) (G_WholeMaker_told.mono (Nat.le_trans (show 1 ≤ 5 by decide) (Nat.le_add_right _ _))) B_WholeMaker_told (G_TextMaker_told.mono (Nat.le_trans (show 1 ≤ 5 by decide) (Nat.le_add_right _ _))) B_TextMaker_told G_RowMaker_told B_RowMaker_told G_ManyMaker_told B_ManyMaker_told G_RisingMaker_told B_RisingMaker_told G_AlikeMaker_told B_AlikeMaker_told G_PickMaker_told B_PickMaker_told G_UseMaker_told B_UseMaker_told CL_WholeMaker ⟨Ov_WholeMaker_told, If_WholeMaker_told, K_WholeMaker_told⟩ CL_TextMaker ⟨Ov_TextMaker_told, If_TextMaker_told, K_TextMaker_told⟩ CL_RowMaker ⟨Ov_RowMaker_told, If_RowMaker_told, K_RowMaker_told⟩ CL_ManyMaker ⟨Ov_ManyMaker_told, If_ManyMaker_told, K_ManyMaker_told⟩ CL_RisingMaker ⟨Ov_RisingMaker_told, If_RisingMaker_told, K_RisingMaker_told⟩ CL_UnlikeMaker ⟨Ov_UnlikeMaker_told, If_RisingMaker_told, K_RisingMaker_told⟩ CL_AlikeMaker ⟨Ov_AlikeMaker_told, If_AlikeMaker_told, K_AlikeMaker_told⟩ CL_PickMaker ⟨Ov_PickMaker_told, If_PickMaker_told, K_PickMaker_told⟩ CL_UseMaker ⟨Ov_UseMaker_told, If_UseMaker_told, K_UseMaker_told⟩) AT_counts AT_rests AT_within Z_enumerate Z_tuple, ok_UseMaker_told (P := l.prog) (w := w) (mg := mg) (base := base) (ct := (ctOf c_NoDraw c_CountError c_NoNumber c_TooMany c_Maker c_WholeMaker c_TextMaker c_RowMaker c_ManyMaker c_RisingMaker c_UnlikeMaker c_AlikeMaker c_PickMaker c_UseMaker c_Tables)) F_UseMaker_told (Nat.le_add_right _ _) (mts_told (ct := (ctOf c_NoDraw c_CountError c_NoNumber c_TooMany c_Maker c_WholeMaker c_TextMaker c_RowMaker c_ManyMaker c_RisingMaker c_UnlikeMaker c_AlikeMaker c_PickMaker c_UseMaker c_Tables)) (G_WholeMaker_told.mono (Nat.le_trans (show 1 ≤ 5 by decide) (Nat.le_add_right _ _))) B_WholeMaker_told (G_TextMaker_told.mono (Nat.le_trans (show 1 ≤ 5 by decide) (Nat.le_add_right _ _))) B_TextMaker_told G_RowMaker_told B_RowMaker_told G_ManyMaker_told B_ManyMaker_told G_RisingMaker_told B_RisingMaker_told G_AlikeMaker_told B_AlikeMaker_told G_PickMaker_told B_PickMaker_told G_UseMaker_told B_UseMaker_told CL_WholeMaker ⟨Ov_WholeMaker_told, If_WholeMaker_told, K_WholeMaker_told⟩ CL_TextMaker ⟨Ov_TextMaker_told, If_TextMaker_told, K_TextMaker_told⟩ CL_RowMaker ⟨Ov_RowMaker_told, If_RowMaker_told, K_RowMaker_told⟩ CL_ManyMaker ⟨Ov_ManyMaker_told, If_ManyMaker_told, K_ManyMaker_told⟩ CL_RisingMaker ⟨Ov_RisingMaker_told, If_RisingMaker_told, K_RisingMaker_told⟩ CL_UnlikeMaker ⟨Ov_UnlikeMaker_told, If_RisingMaker_told, K_RisingMaker_told⟩ CL_AlikeMaker ⟨Ov_AlikeMaker_told, If_AlikeMaker_told, K_AlikeMaker_told⟩ CL_PickMaker ⟨Ov_PickMaker_told, If_PickMaker_told, K_PickMaker_told⟩ CL_UseMaker ⟨Ov_UseMaker_told, If_UseMaker_told, K_UseMaker_told⟩) AT_name AT_named⟩
  obtain ⟨G_AlikeMaker_told, G_ManyMaker_told, G_PickMaker_told, G_RisingMaker_told, G_RowMaker_told, G_UseMaker_told⟩ := Q_AlikeMaker_told 20
  have G_Tables_told := ok_Tables_told (P := l.prog) (w := w) (mg := mg) (base := base) (ct := (ctOf c_NoDraw c_CountError c_NoNumber c_TooMany c_Maker c_WholeMaker c_TextMaker c_RowMaker c_ManyMaker c_RisingMaker c_UnlikeMaker c_AlikeMaker c_PickMaker c_UseMaker c_Tables)) F_Tables_told (mts_told (ct := (ctOf c_NoDraw c_CountError c_NoNumber c_TooMany c_Maker c_WholeMaker c_TextMaker c_RowMaker c_ManyMaker c_RisingMaker c_UnlikeMaker c_AlikeMaker c_PickMaker c_UseMaker c_Tables)) (G_WholeMaker_told.mono (show 1 ≤ 25 by decide)) B_WholeMaker_told (G_TextMaker_told.mono (show 1 ≤ 25 by decide)) B_TextMaker_told (G_RowMaker_told.mono (show 25 ≤ 25 by decide)) B_RowMaker_told (G_ManyMaker_told.mono (show 25 ≤ 25 by decide)) B_ManyMaker_told (G_RisingMaker_told.mono (show 25 ≤ 25 by decide)) B_RisingMaker_told (G_AlikeMaker_told.mono (show 25 ≤ 25 by decide)) B_AlikeMaker_told (G_PickMaker_told.mono (show 25 ≤ 25 by decide)) B_PickMaker_told (G_UseMaker_told.mono (show 25 ≤ 25 by decide)) B_UseMaker_told CL_WholeMaker ⟨Ov_WholeMaker_told, If_WholeMaker_told, K_WholeMaker_told⟩ CL_TextMaker ⟨Ov_TextMaker_told, If_TextMaker_told, K_TextMaker_told⟩ CL_RowMaker ⟨Ov_RowMaker_told, If_RowMaker_told, K_RowMaker_told⟩ CL_ManyMaker ⟨Ov_ManyMaker_told, If_ManyMaker_told, K_ManyMaker_told⟩ CL_RisingMaker ⟨Ov_RisingMaker_told, If_RisingMaker_told, K_RisingMaker_told⟩ CL_UnlikeMaker ⟨Ov_UnlikeMaker_told, If_RisingMaker_told, K_RisingMaker_told⟩ CL_AlikeMaker ⟨Ov_AlikeMaker_told, If_AlikeMaker_told, K_AlikeMaker_told⟩ CL_PickMaker ⟨Ov_PickMaker_told, If_PickMaker_told, K_PickMaker_told⟩ CL_UseMaker ⟨Ov_UseMaker_told, If_UseMaker_told, K_UseMaker_told⟩) AT_top
  have G_fair := ok_fair (P := l.prog) (w := w) (mg := mg) (base := base) (ct := (ctOf c_NoDraw c_CountError c_NoNumber c_TooMany c_Maker c_WholeMaker c_TextMaker c_RowMaker c_ManyMaker c_RisingMaker c_UnlikeMaker c_AlikeMaker c_PickMaker c_UseMaker c_Tables)) F_fair Z_divmod X_NoDraw
  have G_drawn_values := ok_drawn_values (P := l.prog) (w := w) (mg := mg) (base := base) (ct := (ctOf c_NoDraw c_CountError c_NoNumber c_TooMany c_Maker c_WholeMaker c_TextMaker c_RowMaker c_ManyMaker c_RisingMaker c_UnlikeMaker c_AlikeMaker c_PickMaker c_UseMaker c_Tables)) F_drawn_values G_fair M_fair K_fair B_fair G_Tables___init__ B_Tables___init__ (⟨Om_Tables, Oi_Tables, If_Tables___init__, Ok_Tables⟩ : Mk K ((ctOf c_NoDraw c_CountError c_NoNumber c_TooMany c_Maker c_WholeMaker c_TextMaker c_RowMaker c_ManyMaker c_RisingMaker c_UnlikeMaker c_AlikeMaker c_PickMaker c_UseMaker c_Tables) "Tables") _) (mts_counts_at_T (ct := (ctOf c_NoDraw c_CountError c_NoNumber c_TooMany c_Maker c_WholeMaker c_TextMaker c_RowMaker c_ManyMaker c_RisingMaker c_UnlikeMaker c_AlikeMaker c_PickMaker c_UseMaker c_Tables)) (G_Tables_counts_at.mono (show 1 ≤ 1 by decide)) B_Tables_counts_at CL_Tables ⟨Ov_Tables_counts_at, If_Tables_counts_at, K_Tables_counts_at⟩) (mts_grow_to_T (ct := (ctOf c_NoDraw c_CountError c_NoNumber c_TooMany c_Maker c_WholeMaker c_TextMaker c_RowMaker c_ManyMaker c_RisingMaker c_UnlikeMaker c_AlikeMaker c_PickMaker c_UseMaker c_Tables)) (G_Tables_grow_to.mono (show 26 ≤ 26 by decide)) B_Tables_grow_to CL_Tables ⟨Ov_Tables_grow_to, If_Tables_grow_to, K_Tables_grow_to⟩) (mts_told_T (ct := (ctOf c_NoDraw c_CountError c_NoNumber c_TooMany c_Maker c_WholeMaker c_TextMaker c_RowMaker c_ManyMaker c_RisingMaker c_UnlikeMaker c_AlikeMaker c_PickMaker c_UseMaker c_Tables)) (G_Tables_told.mono (show 26 ≤ 26 by decide)) B_Tables_told CL_Tables ⟨Ov_Tables_told, If_Tables_told, K_Tables_told⟩) Z_list X_NoDraw (PySem.W.mg_of X G Cg_NoDraw) (PySem.W.mg_of X G Cg_Tables) XT_NoDraw
  have G_l_refused := ok_l_refused (P := l.prog) (w := w) (mg := mg) (base := base) (ct := (ctOf c_NoDraw c_CountError c_NoNumber c_TooMany c_Maker c_WholeMaker c_TextMaker c_RowMaker c_ManyMaker c_RisingMaker c_UnlikeMaker c_AlikeMaker c_PickMaker c_UseMaker c_Tables)) F_l_refused G_drawn_values M_drawn_values K_drawn_values B_drawn_values Z_ValueError Z_isinstance (PySem.W.mg_of X G Cg_CountError) (PySem.W.mg_of X G Cg_NoDraw) (PySem.W.mg_of X G Cg_NoNumber) (PySem.W.mg_of X G Cg_TooMany) EI_CountError EI_NoNumber EI_TooMany EI_ValueError XT_NoDraw
  have G_l_signs := ok_l_signs (P := l.prog) (w := w) (mg := mg) (base := base) (ct := (ctOf c_NoDraw c_CountError c_NoNumber c_TooMany c_Maker c_WholeMaker c_TextMaker c_RowMaker c_ManyMaker c_RisingMaker c_UnlikeMaker c_AlikeMaker c_PickMaker c_UseMaker c_Tables)) F_l_signs Z_range
  have G_l_value := ok_l_value (P := l.prog) (w := w) (mg := mg) (base := base) (ct := (ctOf c_NoDraw c_CountError c_NoNumber c_TooMany c_Maker c_WholeMaker c_TextMaker c_RowMaker c_ManyMaker c_RisingMaker c_UnlikeMaker c_AlikeMaker c_PickMaker c_UseMaker c_Tables)) F_l_value Z_divmod Z_len Z_range
  have G_law := ok_law (P := l.prog) (w := w) (mg := mg) (base := base) (ct := (ctOf c_NoDraw c_CountError c_NoNumber c_TooMany c_Maker c_WholeMaker c_TextMaker c_RowMaker c_ManyMaker c_RisingMaker c_UnlikeMaker c_AlikeMaker c_PickMaker c_UseMaker c_Tables)) F_law G_l_alike M_l_alike K_l_alike B_l_alike G_l_cell_at M_l_cell_at K_l_cell_at B_l_cell_at G_l_count M_l_count K_l_count B_l_count G_l_refused M_l_refused K_l_refused B_l_refused G_l_signs M_l_signs K_l_signs B_l_signs G_l_value M_l_value K_l_value B_l_value G_drawn_values M_drawn_values K_drawn_values B_drawn_values Z_list Z_range
  exact fn_law G_law
end Law

/-! TBa: shapes as trees, how many values they have of each size, the makers' places in the store. -/
namespace Tb
open PySem L2 Gs MCh
inductive Kd where
  | whole (lo hi : Int) | text (x : Str) | row | pick (ms : List Str) | use (n : Str) | many | rising | unlike | alike (t : Nat)
inductive Sh where
  | mk (k : Kd) (ps : List Sh)
def kd : Kd → List D → D
  | .whole lo hi, _ => .tup [.str "whole", .int lo, .int hi]
  | .text x, _ => .tup [.str "text", .str x]
  | .row, ds => .tup [.str "row", .tup ds]
  | .pick ms, ds => .tup [.str "pick", .tup (List.zipWith (fun m d => .tup [.str m, d]) ms ds)]
  | .use n, _ => .tup [.str "use", .str n]
  | .many, ds => .tup (.str "many" :: ds)
  | .rising, ds => .tup (.str "rising" :: ds)
  | .unlike, ds => .tup (.str "unlike" :: ds)
  | .alike t, ds => .tup (.str "alike" :: (ds ++ [.int t]))
mutual
def Sh.d : Sh → D
  | .mk k ps => kd k (dL ps)
def dL : List Sh → List D
  | [] => []
  | p :: ps => p.d :: dL ps
end
/-- how many parts a kind has -/
def okK : Kd → Nat → Prop
  | .whole _ _, n => n = 0
  | .text _, n => n = 0
  | .use _, n => n = 0
  | .row, n => n ≤ 100
  | .pick ms, n => ms.length = n ∧ n ≤ 100
  | .many, n => n = 1
  | .rising, n => n = 1
  | .unlike, n => n = 1
  | .alike t, n => n = 1 ∧ 0 < t ∧ t ≤ 100
mutual
def Sh.ok : Sh → Prop
  | .mk k ps => okK k ps.length ∧ okL ps
def okL : List Sh → Prop
  | [] => True
  | p :: ps => p.ok ∧ okL ps
end
mutual
def Sh.dep : Sh → Nat
  | .mk _ ps => 1 + depL ps
def depL : List Sh → Nat
  | [] => 0
  | p :: ps => max p.dep (depL ps)
end
theorem dL_map : ∀ ps : List Sh, dL ps = ps.map Sh.d
  | [] => rfl
  | p :: ps => by simp only [dL, List.map_cons, dL_map ps]
theorem dL_length (ps : List Sh) : (dL ps).length = ps.length := by rw [dL_map, List.length_map]

/-! ### counts -/
def wcnt (span : Int) : Nat → Nat
  | 0 => 1
  | z + 1 => (max 0 (min span (2 * 2 ^ z - 1) - 2 ^ z + 1)).toNat
def rcnt : List (Nat → Nat) → Nat → Nat
  | [], z => if z = 0 then 1 else 0
  | f :: fs, z => ((List.range (z + 1)).map fun i => f i * rcnt fs (z - i)).sum
/-- the first counts of the lists of things, so many -/
def mL (f : Nat → Nat) : Nat → List Nat
  | 0 => []
  | n + 1 => mL f n ++ [if n = 0 then 1 else ((List.range n).map fun i => f i * (mL f n).getD (n - 1 - i) 0).sum]
def mcnt (f : Nat → Nat) (z : Nat) : Nat := (mL f (z + 1)).getD z 0
theorem mL_len (f : Nat → Nat) : ∀ n, (mL f n).length = n
  | 0 => rfl
  | n + 1 => by simp [mL, mL_len f n]
theorem mL_get (f : Nat → Nat) : ∀ (n z : Nat), z < n → (mL f n).getD z 0 = mcnt f z
  | 0, z, h => by omega
  | n + 1, z, h => by
    by_cases e : z = n
    · subst e; rfl
    · have ih := mL_get f n z (by omega)
      rw [← ih]
      have hl := mL_len f n
      simp only [mL, List.getD_eq_getElem?_getD]
      rw [List.getElem?_append_left (by omega)]
theorem mcnt_0 (f : Nat → Nat) : mcnt f 0 = 1 := rfl
theorem sum_congr {f g : Nat → Nat} {n : Nat} (h : ∀ i, i < n → f i = g i) : ((List.range n).map f).sum = ((List.range n).map g).sum := by
  congr 1
  exact List.map_congr_left fun i hi => h i (List.mem_range.mp hi)
theorem mcnt_s (f : Nat → Nat) (z : Nat) : mcnt f (z + 1) = ((List.range (z + 1)).map fun i => f i * mcnt f (z - i)).sum := by
  have hl := mL_len f (z + 1)
  have e : mcnt f (z + 1) = (if z + 1 = 0 then 1 else ((List.range (z + 1)).map fun i => f i * (mL f (z + 1)).getD (z + 1 - 1 - i) 0).sum) := by
    unfold mcnt
    rw [show mL f (z + 1 + 1) = mL f (z + 1) ++ [if z + 1 = 0 then 1 else ((List.range (z + 1)).map fun i => f i * (mL f (z + 1)).getD (z + 1 - 1 - i) 0).sum] from rfl, List.getD_eq_getElem?_getD, List.getElem?_append_right (by omega), hl]
    simp
  rw [e, if_neg (by omega)]
  refine sum_congr fun i hi => ?_
  rw [mL_get f (z + 1) _ (by omega), show z + 1 - 1 - i = z - i by omega]
/-- lists whose things have the least size or more -/
def bey (am : Nat → Nat → Nat) (f : Nat → Nat) : Nat → Nat → Nat → Nat
  | 0, _, z => if z = 0 then 1 else 0
  | n + 1, l, z => if z = 0 then 1 else ((List.range (z / (l + 1) + 1)).map fun c => am (f l) c * bey am f n (l + 1) (z - c * (l + 1))).sum
theorem bey_0 (am : Nat → Nat → Nat) (f : Nat → Nat) : ∀ n l, bey am f n l 0 = 1
  | 0, _ => rfl
  | n + 1, _ => by simp [bey]
theorem bey_hi {am : Nat → Nat → Nat} (h0 : ∀ n, am n 0 = 1) (f : Nat → Nat) : ∀ n l z, 0 < z → z ≤ l → bey am f n l z = 0
  | 0, l, z, h, _ => by simp [bey]; omega
  | n + 1, l, z, h, hl => by
    have e : z / (l + 1) = 0 := Nat.div_eq_of_lt (by omega)
    simp only [bey, e]
    rw [if_neg (by omega)]
    simp [h0, bey_hi h0 f n (l + 1) z h (by omega)]
theorem bey_fuel {am : Nat → Nat → Nat} (h0 : ∀ n, am n 0 = 1) (f : Nat → Nat) : ∀ n m l z, z ≤ n + l → z ≤ m + l → bey am f n l z = bey am f m l z
  | 0, m, l, z, h, h2 => by
    by_cases hz : z = 0
    · subst hz; rw [bey_0, bey_0]
    · rw [bey_hi h0 f 0 l z (by omega) (by omega), bey_hi h0 f m l z (by omega) (by omega)]
  | n + 1, 0, l, z, h, h2 => by
    by_cases hz : z = 0
    · subst hz; rw [bey_0, bey_0]
    · rw [bey_hi h0 f (n + 1) l z (by omega) (by omega), bey_hi h0 f 0 l z (by omega) (by omega)]
  | n + 1, m + 1, l, z, h, h2 => by
    simp only [bey]
    by_cases hz : z = 0
    · rw [if_pos hz, if_pos hz]
    · rw [if_neg hz, if_neg hz]
      refine sum_congr fun c _ => ?_
      rw [bey_fuel h0 f n m (l + 1) _ (by omega) (by omega)]
def beyond (am : Nat → Nat → Nat) (f : Nat → Nat) (l z : Nat) : Nat := bey am f z l z
theorem beyond_0 (am : Nat → Nat → Nat) (f : Nat → Nat) (l : Nat) : beyond am f l 0 = 1 := rfl
theorem beyond_hi {am : Nat → Nat → Nat} (h0 : ∀ n, am n 0 = 1) (f : Nat → Nat) {l z : Nat} (h : 0 < z) (hl : z ≤ l) : beyond am f l z = 0 := bey_hi h0 f z l z h hl
theorem beyond_s {am : Nat → Nat → Nat} (h0 : ∀ n, am n 0 = 1) (f : Nat → Nat) {l z : Nat} (h : l < z) : beyond am f l z = ((List.range (z / (l + 1) + 1)).map fun c => am (f l) c * beyond am f (l + 1) (z - c * (l + 1))).sum := by
  obtain ⟨y, rfl⟩ : ∃ y, z = y + 1 := ⟨z - 1, by omega⟩
  unfold beyond
  rw [show bey am f (y + 1) l (y + 1) = if y + 1 = 0 then 1 else ((List.range ((y + 1) / (l + 1) + 1)).map fun c => am (f l) c * bey am f y (l + 1) (y + 1 - c * (l + 1))).sum from rfl, if_neg (by omega)]
  refine sum_congr fun c _ => ?_
  rw [bey_fuel h0 f y (y + 1 - c * (l + 1)) (l + 1) _ (by omega) (by omega)]
def amK : Kd → Nat → Nat → Nat
  | .unlike => ch
  | _ => bg
theorem amK_0 (k : Kd) (n : Nat) : amK k n 0 = 1 := by cases k <;> first | exact bg_0 n | exact ch_0 n
def hd1 (fs : List (Nat → Nat)) : Nat → Nat := fs.headD fun _ => 0
def kcnt (N : Str → Nat → Nat) : Kd → List (Nat → Nat) → Nat → Nat
  | .whole lo hi, _, z => wcnt (hi - lo) z
  | .text x, _, z => x.length ^ z
  | .row, fs, z => rcnt fs z
  | .pick _, fs, z => (fs.map fun f => f z).sum
  | .use _, _, 0 => 0
  | .use n, _, z + 1 => N n z
  | .many, fs, z => mcnt (hd1 fs) z
  | .rising, fs, z => beyond bg (hd1 fs) 0 z
  | .unlike, fs, z => beyond ch (hd1 fs) 0 z
  | .alike t, fs, z => if z < t ∨ z % t ≠ 0 then 0 else hd1 fs (z / t - 1)
mutual
def cnt (N : Str → Nat → Nat) : Sh → Nat → Nat
  | .mk k ps => kcnt N k (cntL N ps)
def cntL (N : Str → Nat → Nat) : List Sh → List (Nat → Nat)
  | [] => []
  | p :: ps => cnt N p :: cntL N ps
end
theorem cntL_map (N : Str → Nat → Nat) : ∀ ps : List Sh, cntL N ps = ps.map (cnt N)
  | [] => rfl
  | p :: ps => by simp only [cntL, List.map_cons, cntL_map N ps]
theorem cntL_len (N : Str → Nat → Nat) (ps : List Sh) : (cntL N ps).length = ps.length := by rw [cntL_map, List.length_map]

/-! ### the makers' places -/
def clsK : Kd → String
  | .whole _ _ => "WholeMaker"
  | .text _ => "TextMaker"
  | .row => "RowMaker"
  | .pick _ => "PickMaker"
  | .use _ => "UseMaker"
  | .many => "ManyMaker"
  | .rising => "RisingMaker"
  | .unlike => "UnlikeMaker"
  | .alike _ => "AlikeMaker"
def xtra : Kd → Nat → Nat
  | .row, m => m + 1
  | .rising, _ => 1
  | .unlike, _ => 1
  | _, _ => 0
mutual
def sz : Sh → Nat
  | .mk k ps => szL ps + (2 + xtra k ps.length)
def szL : List Sh → Nat
  | [] => 0
  | p :: ps => sz p + szL ps
end
def root : Sh → Nat → Nat
  | .mk _ ps, b => b + szL ps
theorem root_mk (k : Kd) (ps : List Sh) (b : Nat) : root (.mk k ps) b = b + szL ps := id rfl
def rootsL : List Sh → Nat → List Nat
  | [], _ => []
  | p :: ps, b => root p b :: rootsL ps (b + sz p)
theorem rootsL_len : ∀ (ps : List Sh) (b : Nat), (rootsL ps b).length = ps.length
  | [], _ => rfl
  | p :: ps, b => by simp [rootsL, rootsL_len ps]
def vals (f : Nat → Nat) (n : Nat) : List D := (List.range n).map fun z => .int (f z : Nat)
theorem vals_len (f : Nat → Nat) (n : Nat) : (vals f n).length = n := by simp [vals]
theorem vals_0 (f : Nat → Nat) : vals f 0 = [] := rfl
theorem vals_s (f : Nat → Nat) (n : Nat) : vals f (n + 1) = vals f n ++ [.int (f n : Nat)] := by simp [vals, List.range_succ]
theorem vals_get (f : Nat → Nat) {n z : Nat} (h : z < n) : (vals f n)[z]? = some (.int (f z : Nat)) := by simp [vals, h]
theorem vals_at (f : Nat → Nat) {n z : Nat} (h : z < n) : atI (vals f n) (z : Int) = some (.int (f z : Nat)) := by
  rw [atI_ofNat _ (by rw [vals_len]; exact h)]
  have e := vals_get f h
  rw [List.getElem?_eq_getElem (by rw [vals_len]; exact h)] at e
  exact e
theorem vals_congr {f g : Nat → Nat} {n : Nat} (h : ∀ z, z < n → f z = g z) : vals f n = vals g n := List.map_congr_left fun z hz => by rw [h z (List.mem_range.mp hz)]
/-- the pairs of a table of lists in order, of the sizes below n -/
def waysZ (am : Nat → Nat → Nat) (f : Nat → Nat) (z : Nat) : List (List Key × D) := (List.range z).reverse.map fun (l : Nat) => ([.inl (l : Int), .inl (z : Int)], D.int (beyond am f l z : Nat))
def ways (am : Nat → Nat → Nat) (f : Nat → Nat) : Nat → List (List Key × D)
  | 0 => []
  | n + 1 => ways am f n ++ waysZ am f n
def fieldsK (k : Kd) (i m nd : Nat) : List (Str × D) := match k with
  | .whole lo hi => [("low", .int lo), ("span", .int (hi - lo))]
  | .text x => [("signs", .str x)]
  | .row => [("rests", .lst ((List.range (m + 1)).map fun j => .ob (i + 2 + j)))]
  | .pick ms => [("marks", .lst (ms.map .str))]
  | .use n => [("named", .ob nd), ("name", .str n)]
  | .many => []
  | .rising => [("ways", .ob (i + 2))]
  | .unlike => [("ways", .ob (i + 2))]
  | .alike t => [("times", .int t)]
def restsO : List (Nat → Nat) → Nat → List O
  | [], n => [.lst (vals (rcnt []) n)]
  | f :: fs, n => .lst (vals (rcnt (f :: fs)) n) :: restsO fs n
def extraO (k : Kd) (fs : List (Nat → Nat)) (n : Nat) : List O := match k with
  | .row => restsO fs n
  | .rising => [.dT (ways bg (hd1 fs) n)]
  | .unlike => [.dT (ways ch (hd1 fs) n)]
  | _ => []
theorem restsO_len : ∀ (fs : List (Nat → Nat)) (n : Nat), (restsO fs n).length = fs.length + 1
  | [], _ => rfl
  | f :: fs, n => by simp [restsO, restsO_len fs]
theorem extraO_len (k : Kd) (fs : List (Nat → Nat)) (n : Nat) : (extraO k fs n).length = xtra k fs.length := by
  cases k <;> first
    | rfl
    | exact restsO_len fs n
def insO (k : Kd) (cs : List Nat) (i nd : Nat) : O := .ins (clsK k) (("within", .lst (cs.map .ob)) :: ("counts", .ob (i + 1)) :: fieldsK k i cs.length nd)
def ownO (N : Str → Nat → Nat) (nd : Nat) (k : Kd) (cs : List Nat) (i : Nat) (fs : List (Nat → Nat)) (n : Nat) : List O := insO k cs i nd :: .lst (vals (kcnt N k fs) n) :: extraO k fs n
theorem ownO_len (N : Str → Nat → Nat) (nd : Nat) (k : Kd) (cs : List Nat) (i : Nat) (fs : List (Nat → Nat)) (n : Nat) : (ownO N nd k cs i fs n).length = 2 + xtra k fs.length := by
  simp [ownO, extraO_len]; omega
mutual
def lay (N : Str → Nat → Nat) (nd : Nat) : Sh → Nat → Nat → List O
  | .mk k ps, b, n => layL N nd ps b n ++ ownO N nd k (rootsL ps b) (b + szL ps) (cntL N ps) n
def layL (N : Str → Nat → Nat) (nd : Nat) : List Sh → Nat → Nat → List O
  | [], _, _ => []
  | p :: ps, b, n => lay N nd p b n ++ layL N nd ps (b + sz p) n
end
mutual
theorem lay_len (N : Str → Nat → Nat) (nd : Nat) : ∀ (sh : Sh) (b n : Nat), (lay N nd sh b n).length = sz sh
  | .mk k ps, b, n => by simp only [lay, sz, List.length_append, ownO_len, cntL_len, layL_len N nd ps b n]
theorem layL_len (N : Str → Nat → Nat) (nd : Nat) : ∀ (ps : List Sh) (b n : Nat), (layL N nd ps b n).length = szL ps
  | [], _, _ => rfl
  | p :: ps, b, n => by simp only [layL, szL, List.length_append, lay_len N nd p b n, layL_len N nd ps (b + sz p) n]
end
/-- from b on stands xs -/
def At (s : Sto) (b : Nat) (xs : List O) : Prop := ∀ (j : Nat) (o : O), xs[j]? = some o → s[b + j]? = some o
theorem At.app {s : Sto} {b : Nat} {xs ys : List O} (h : At s b (xs ++ ys)) : At s b xs ∧ At s (b + xs.length) ys := by
  refine ⟨fun j o e => h j o ?_, fun j o e => ?_⟩
  · have := (List.getElem?_eq_some_iff.mp e).1
    rw [List.getElem?_append_left this]
    exact e
  · rw [Nat.add_assoc]
    exact h _ o (by rw [List.getElem?_append_right (by omega), Nat.add_sub_cancel_left]; exact e)
theorem At.join {s : Sto} {b : Nat} {xs ys : List O} (h : At s b xs) (h2 : At s (b + xs.length) ys) : At s b (xs ++ ys) := fun j o e => by
  by_cases z : j < xs.length
  · rw [List.getElem?_append_left z] at e
    exact h j o e
  · rw [List.getElem?_append_right (by omega)] at e
    have q := h2 _ o e
    rwa [show b + xs.length + (j - xs.length) = b + j by omega] at q
theorem At.cons {s : Sto} {b : Nat} {x : O} {xs : List O} (h : At s b (x :: xs)) : s[b]? = some x ∧ At s (b + 1) xs := ⟨h 0 x rfl, fun j o e => by rw [show b + 1 + j = b + (j + 1) by omega]; exact h (j + 1) o (by simpa using e)⟩
theorem At.more {s : Sto} {b : Nat} {xs : List O} (h : At s b xs) (g : List O) : At (s ++ g) b xs := fun j o e => by
  have q := h j o e
  have := (List.getElem?_eq_some_iff.mp q).1
  rw [List.getElem?_append_left this]
  exact q
theorem At.here (s : Sto) (xs : List O) : At (s ++ xs) s.length xs := fun j o e => by
  rw [List.getElem?_append_right (by omega), Nat.add_sub_cancel_left]
  exact e
theorem At.nil {s : Sto} {b : Nat} : At s b [] := fun j o e => by simp at e
theorem At.mk {s : Sto} {b : Nat} {x : O} {xs : List O} (h : s[b]? = some x) (h2 : At s (b + 1) xs) : At s b (x :: xs) := fun j o e => by
  cases j with
  | zero => simp at e; subst e; exact h
  | succ j =>
    rw [show b + (j + 1) = b + 1 + j by omega]
    exact h2 j o (by simpa using e)
/-! ### books -/
abbrev Bk := List (Str × Sh)
def bookD (bk : Bk) : D := .lst (bk.map fun p => .tup [.str p.1, p.2.d])
def kvsB : Bk → Nat → List (Key × D)
  | [], _ => []
  | (n, p) :: r, b => (.inr n, .ob (root p b)) :: kvsB r (b + sz p)
def layB (N : Str → Nat → Nat) (nd : Nat) : Bk → Nat → Nat → List O
  | [], _, _ => []
  | (_, p) :: r, b, n => lay N nd p b n ++ layB N nd r (b + sz p) n
def szB : Bk → Nat
  | [] => 0
  | (_, p) :: r => sz p + szB r
theorem layB_len (N : Str → Nat → Nat) (nd : Nat) : ∀ (bk : Bk) (b n : Nat), (layB N nd bk b n).length = szB bk
  | [], _, _ => rfl
  | (_, p) :: r, b, n => by simp only [layB, szB, List.length_append, lay_len, layB_len N nd r]
/-- a name's counts: by so many turns -/
def NT (bk : Bk) : Nat → Str → Nat → Nat
  | 0, _, _ => 0
  | k + 1, n, z => match bk.lookup n with
    | some p => cnt (NT bk k) p z
    | none => 0
def NN (bk : Bk) (n : Str) (z : Nat) : Nat := NT bk (z + 1) n z
/-- these agree below z -/
def Agr (f g : Nat → Nat) (z : Nat) : Prop := ∀ j, j ≤ z → f j = g j
theorem rcnt_loc : ∀ {fs gs : List (Nat → Nat)} {z : Nat}, fs.length = gs.length → (∀ (i : Nat) (f g : Nat → Nat), fs[i]? = some f → gs[i]? = some g → Agr f g z) → Agr (rcnt fs) (rcnt gs) z
  | [], [], z, _, _, j, hj => rfl
  | f :: fs, g :: gs, z, hl, h, j, hj => by
    simp only [rcnt]
    refine sum_congr fun i hi => ?_
    rw [h 0 f g rfl rfl i (by omega), rcnt_loc (z := z) (by simpa using hl) (fun i f g e1 e2 => h (i + 1) f g (by simpa using e1) (by simpa using e2)) (j - i) (by omega)]
  | [], g :: gs, z, hl, _, _, _ => by simp at hl
  | f :: fs, [], z, hl, _, _, _ => by simp at hl
theorem mcnt_loc {f g : Nat → Nat} : ∀ {z : Nat}, (∀ j, j < z → f j = g j) → mcnt f z = mcnt g z := by
  intro z
  induction z using Nat.strongRecOn with
  | ind z ih =>
    intro h
    cases z with
    | zero => rfl
    | succ z =>
      rw [mcnt_s, mcnt_s]
      refine sum_congr fun i hi => ?_
      rw [h i hi, ih (z - i) (by omega) fun j hj => h j (by omega)]
theorem bey_loc {am : Nat → Nat → Nat} (h0 : ∀ n, am n 0 = 1) {f g : Nat → Nat} : ∀ {n l z : Nat}, (∀ j, j < z → f j = g j) → bey am f n l z = bey am g n l z
  | 0, l, z, h => rfl
  | n + 1, l, z, h => by
    by_cases hz : z = 0
    · subst hz; rw [bey_0, bey_0]
    · by_cases hl : l < z
      · simp only [bey]
        rw [if_neg hz, if_neg hz]
        refine sum_congr fun c hc => ?_
        rw [h l hl, bey_loc h0 (n := n) (l := l + 1) (z := z - c * (l + 1)) fun j hj => h j (by omega)]
      · rw [bey_hi h0 f _ _ _ (by omega) (by omega), bey_hi h0 g _ _ _ (by omega) (by omega)]
def okB (bk : Bk) : Prop := ∀ p ∈ bk, p.2.ok
theorem lookup_mem : ∀ {bk : Bk} {n : Str} {p : Sh}, bk.lookup n = some p → (n, p) ∈ bk
  | [], _, _, h => by simp at h
  | (m, q) :: r, n, p, h => by
    simp only [List.lookup_cons] at h
    split at h
    · rename_i e
      have e' : n = m := by simpa using e
      simp only [Option.some.injEq] at h
      subst h
      subst e'
      simp
    · exact List.mem_cons_of_mem _ (lookup_mem h)
theorem kcnt_loc {N N' : Str → Nat → Nat} {k : Kd} {fs gs : List (Nat → Nat)} {z : Nat} (hN : ∀ n j, j < z → N n j = N' n j) (hl : fs.length = gs.length) (h : ∀ (i : Nat) (f g : Nat → Nat), fs[i]? = some f → gs[i]? = some g → Agr f g z) : Agr (kcnt N k fs) (kcnt N' k gs) z := by
  have h1 : ∀ j, j ≤ z → hd1 fs j = hd1 gs j := fun j hj => by
    unfold hd1
    cases fs with
    | nil => cases gs with
      | nil => rfl
      | cons g gs => simp at hl
    | cons f fs => cases gs with
      | nil => simp at hl
      | cons g gs => exact h 0 f g rfl rfl j hj
  intro j hj
  cases k with
  | whole lo hi => rfl
  | text x => rfl
  | row => exact rcnt_loc hl h j hj
  | pick ms =>
    show (fs.map fun f => f j).sum = (gs.map fun f => f j).sum
    congr 1
    apply List.ext_getElem?
    intro i
    rw [List.getElem?_map, List.getElem?_map]
    cases e1 : fs[i]? with
    | none =>
      have e2 : gs[i]? = none := by rw [List.getElem?_eq_none_iff] at e1 ⊢; omega
      rw [e2]
    | some f =>
      cases e2 : gs[i]? with
      | none => rw [List.getElem?_eq_none_iff] at e2; have := (List.getElem?_eq_some_iff.mp e1).1; omega
      | some g => simp only [Option.map_some]; rw [h i f g e1 e2 j hj]
  | use n =>
    cases j with
    | zero => rfl
    | succ j => exact hN n j (by omega)
  | many => exact mcnt_loc fun i hi => h1 i (by omega)
  | rising => exact bey_loc bg_0 fun i hi => h1 i (by omega)
  | unlike => exact bey_loc ch_0 fun i hi => h1 i (by omega)
  | alike t =>
    simp only [kcnt]
    split
    · rfl
    · rename_i hz
      have : j / t ≤ j := Nat.div_le_self _ _
      exact h1 _ (by omega)
mutual
theorem cnt_loc {N N' : Str → Nat → Nat} {z : Nat} (hN : ∀ n j, j < z → N n j = N' n j) : ∀ p : Sh, Agr (cnt N p) (cnt N' p) z
  | .mk k ps => kcnt_loc hN (by rw [cntL_len, cntL_len]) (cntL_loc hN ps)
theorem cntL_loc {N N' : Str → Nat → Nat} {z : Nat} (hN : ∀ n j, j < z → N n j = N' n j) : ∀ (ps : List Sh) (i : Nat) (f g : Nat → Nat), (cntL N ps)[i]? = some f → (cntL N' ps)[i]? = some g → Agr f g z
  | [], i, f, g, h, _ => by simp [cntL] at h
  | p :: ps, 0, f, g, h, h2 => by
    simp [cntL] at h h2
    subst h
    subst h2
    exact cnt_loc hN p
  | p :: ps, i + 1, f, g, h, h2 => cntL_loc hN ps i f g (by simpa [cntL] using h) (by simpa [cntL] using h2)
end
theorem NT_st (bk : Bk) : ∀ (z : Nat) (n : Str) (k k' : Nat), z < k → z < k' → NT bk k n z = NT bk k' n z := by
  intro z
  induction z using Nat.strongRecOn with
  | ind z ih =>
    intro n k k' h h'
    obtain ⟨a, rfl⟩ : ∃ a, k = a + 1 := ⟨k - 1, by omega⟩
    obtain ⟨b, rfl⟩ : ∃ b, k' = b + 1 := ⟨k' - 1, by omega⟩
    simp only [NT]
    cases bk.lookup n with
    | none => rfl
    | some p => exact cnt_loc (fun m j hj => ih j hj m a b (by omega) (by omega)) p z (Nat.le_refl _)
theorem NN_eq {bk : Bk} {n : Str} {p : Sh} (h : bk.lookup n = some p) (z : Nat) : NN bk n z = cnt (NN bk) p z := by
  unfold NN
  simp only [NT, h]
  exact cnt_loc (fun m j hj => NT_st bk j m z (j + 1) hj (by omega)) p z (Nat.le_refl _)
end Tb

/-! TBb: the makers made, grown. -/
namespace Law
open PySem L2 Gs MCh Tb
theorem ix_last {s : Sto} {o : O} {g : List O} : (s ++ o :: g)[s.length]? = some o := by simp
theorem inO_last {s : Sto} {c : String} {fs : List (Str × D)} {g : List O} : inO (s ++ .ins c fs :: g) (.ob s.length) = some (c, fs) := by unfold inO; simp
theorem set_last {s : Sto} {o o' : O} {g : List O} : (s ++ o :: g).set s.length o' = s ++ o' :: g := by simp
theorem init_maker {c : String} (h1 : cl_within c = true) (h2 : cl_counts c = true) (w : D) (s : Sto) :
    S_Maker___init__ [.ob s.length, w] (s ++ [.ins c []]) = .ok .non (s ++ [.ins c [("within", w), ("counts", .ob (s.length + 1))], .lst []]) := by
  apply runG_nx
  have n1 : ¬ (("within" : Str) = "counts") := by decide
  simp [inO_last, h1, h2, set_last, putD, n1]
  rfl
theorem make_of {c : String} {F : List D → Sto → R D} {a : As} {δ : Sl} {s : Sto} {ds : List D} {s1 : Sto} {g : List O} (ha : a δ s = .ok ds s1) (hF : F (.ob s1.length :: ds) (s1 ++ [.ins c []]) = .ok .non (s1 ++ g)) : eMake c F a δ s = .ok (.ob s1.length) (s1 ++ g) := by
  simp [ha, hF]
theorem init_whole (N : Str → Nat → Nat) (nd : Nat) (lo hi : Int) (s : Sto) : S_WholeMaker___init__ [.ob s.length, .int lo, .int hi] (s ++ [.ins "WholeMaker" []]) = .ok .non (s ++ ownO N nd (.whole lo hi) [] s.length [] 0) := by
  apply runG_nx
  simp (decide := true) [init_maker (c := "WholeMaker") rfl rfl, inO_last, set_last, putD, cl_low, cl_span]
  exact ⟨rfl, rfl⟩
theorem init_text (N : Str → Nat → Nat) (nd : Nat) (x : Str) (s : Sto) : S_TextMaker___init__ [.ob s.length, .str x] (s ++ [.ins "TextMaker" []]) = .ok .non (s ++ ownO N nd (.text x) [] s.length [] 0) := by
  apply runG_nx
  simp (decide := true) [init_maker (c := "TextMaker") rfl rfl, inO_last, set_last, putD, cl_signs]
  exact ⟨rfl, rfl⟩
theorem init_use (N : Str → Nat → Nat) (nd : Nat) (x : Str) (s : Sto) : S_UseMaker___init__ [.ob s.length, .ob nd, .str x] (s ++ [.ins "UseMaker" []]) = .ok .non (s ++ ownO N nd (.use x) [] s.length [] 0) := by
  apply runG_nx
  simp (decide := true) [init_maker (c := "UseMaker") rfl rfl, inO_last, set_last, putD, cl_named, cl_name]
  exact ⟨rfl, rfl⟩
theorem init_many (N : Str → Nat → Nat) (nd : Nat) (cs : List Nat) (fs : List (Nat → Nat)) (s : Sto) : S_Maker___init__ [.ob s.length, .lst (cs.map .ob)] (s ++ [.ins "ManyMaker" []]) = .ok .non (s ++ ownO N nd .many cs s.length fs 0) := init_maker (c := "ManyMaker") rfl rfl _ s
theorem init_pick (N : Str → Nat → Nat) (nd : Nat) (ms : List Str) (cs : List Nat) (fs : List (Nat → Nat)) (s : Sto) : S_PickMaker___init__ [.ob s.length, .lst (cs.map .ob), .lst (ms.map .str)] (s ++ [.ins "PickMaker" []]) = .ok .non (s ++ ownO N nd (.pick ms) cs s.length fs 0) := by
  apply runG_nx
  simp (decide := true) [init_maker (c := "PickMaker") rfl rfl, inO_last, set_last, putD, cl_marks]
  exact ⟨rfl, rfl⟩
theorem init_alike (N : Str → Nat → Nat) (nd : Nat) (t : Nat) (cs : List Nat) (fs : List (Nat → Nat)) (s : Sto) : S_AlikeMaker___init__ [.ob s.length, .lst (cs.map .ob), .int t] (s ++ [.ins "AlikeMaker" []]) = .ok .non (s ++ ownO N nd (.alike t) cs s.length fs 0) := by
  apply runG_nx
  simp (decide := true) [init_maker (c := "AlikeMaker") rfl rfl, inO_last, set_last, putD, cl_times]
  exact ⟨rfl, rfl⟩
theorem init_rising (N : Str → Nat → Nat) (nd : Nat) (cs : List Nat) (fs : List (Nat → Nat)) (s : Sto) : S_RisingMaker___init__ [.ob s.length, .lst (cs.map .ob)] (s ++ [.ins "RisingMaker" []]) = .ok .non (s ++ ownO N nd .rising cs s.length fs 0) := by
  apply runG_nx
  simp (decide := true) [init_maker (c := "RisingMaker") rfl rfl, inO_last, set_last, putD, cl_ways]
  exact ⟨rfl, rfl⟩
theorem init_unlike (N : Str → Nat → Nat) (nd : Nat) (cs : List Nat) (fs : List (Nat → Nat)) (s : Sto) : S_RisingMaker___init__ [.ob s.length, .lst (cs.map .ob)] (s ++ [.ins "UnlikeMaker" []]) = .ok .non (s ++ ownO N nd .unlike cs s.length fs 0) := by
  apply runG_nx
  simp (decide := true) [init_maker (c := "UnlikeMaker") rfl rfl, inO_last, set_last, putD, cl_ways]
  exact ⟨rfl, rfl⟩
/-- so many new lists -/
theorem lc_news {δ : Sl} {i : Nat} : ∀ (xs : List D) (s : Sto), lcD (.nm i) tTrue (eNw (fLst aNil)) δ xs s = .ok ((List.range xs.length).map fun j => .ob (s.length + j)) (s ++ List.replicate xs.length (.lst []))
  | [], s => by simp [lcD]
  | x :: xs, s => by
    have ih := lc_news (δ := δ) (i := i) xs (s ++ [.lst []])
    simp only [lcD, v_nm, v_tTrue]
    have e : eNw (fLst aNil) (δ.set i (some x)) s = .ok (.ob s.length) (s ++ [.lst []]) := by simp
    rw [e]
    simp only [ih]
    rw [List.length_cons, List.range_succ_eq_map, List.replicate_succ]
    simp only [List.map_cons, List.map_map, List.append_assoc, List.singleton_append, Nat.add_zero, List.length_append, List.length_cons, List.length_nil]
    congr 2
    apply List.map_congr_left
    intro j _
    show D.ob _ = D.ob _
    congr 1
    simp only [Function.comp, Nat.succ_eq_add_one]
    omega
theorem rests_0 : ∀ fs : List (Nat → Nat), restsO fs 0 = List.replicate (fs.length + 1) (.lst [])
  | [] => rfl
  | f :: fs => by simp [restsO, rests_0 fs, vals_0, List.replicate_succ]
theorem init_row (N : Str → Nat → Nat) (nd : Nat) (cs : List Nat) (fs : List (Nat → Nat)) (hl : fs.length = cs.length) (h : cs.length ≤ 100) (s : Sto) : S_RowMaker___init__ [.ob s.length, .lst (cs.map .ob)] (s ++ [.ins "RowMaker" []]) = .ok .non (s ++ ownO N nd .row cs s.length fs 0) := by
  apply runG_nx
  have hr : rngOk ((cs.length : Int) + 1) := by
    have := rngOk_nat (j := cs.length + 1) (by omega)
    simpa using this
  have ht : ((cs.length : Int) + 1).toNat = cs.length + 1 := by omega
  simp (decide := true) [init_maker (c := "RowMaker") rfl rfl, inO_last, set_last, putD, cl_rests, hr, ht, lc_news, rngD_length]
  rw [if_pos (Nat.le_trans (show cs.length + 1 ≤ 101 by omega) (by decide))]
  simp [inO_last, set_last]
  refine ⟨rfl, ?_⟩
  simp [ownO, insO, fieldsK, extraO, rests_0, hl, vals_0, clsK]
  rfl
/-- a maker made, at the end of the store -/
def Made (N : Str → Nat → Nat) (nd d : Nat) (p : Sh) : Prop := ∀ s : Sto, S_maker_of d [p.d, .ob nd] s = .ok (.ob (root p s.length)) (s ++ lay N nd p s.length 0)
theorem lc_mk {N : Str → Nat → Nat} {nd d i : Nat} (hi : i ≠ 1) {δ : Sl} (h1 : δ[1]? = some (some (.ob nd))) (hl : i < δ.length) : ∀ (ps : List Sh) (s : Sto), (∀ p ∈ ps, Made N nd d p) →
    lcD (.nm i) tTrue (eCall (S_maker_of d) (aCons (eV i) (aCons (eV 1) aNil))) δ (dL ps) s = .ok ((rootsL ps s.length).map .ob) (s ++ layL N nd ps s.length 0)
  | [], s, _ => by simp [dL, lcD, rootsL, layL]
  | p :: ps, s, h => by
    have e0 : eCall (S_maker_of d) (aCons (eV i) (aCons (eV 1) aNil)) (δ.set i (some p.d)) s = .ok (.ob (root p s.length)) (s ++ lay N nd p s.length 0) := by
      simp [hl, List.getElem?_set_ne hi, h1, h p (by simp) s]
    have ih := lc_mk (N := N) (nd := nd) (d := d) hi h1 hl ps (s ++ lay N nd p s.length 0) fun q hq => h q (by simp [hq])
    simp only [dL, lcD, v_nm, v_tTrue, e0, ih]
    simp [rootsL, layL, lay_len]
theorem lc_mk2 {N : Str → Nat → Nat} {nd d i : Nat} (hi : i ≠ 1) {δ : Sl} (h1 : δ[1]? = some (some (.ob nd))) (hl : i < δ.length) : ∀ (ms : List Str) (ps : List Sh) (s : Sto), ms.length = ps.length → (∀ p ∈ ps, Made N nd d p) →
    lcD (.nm i) tTrue (eCall (S_maker_of d) (aCons (eBin Gs.gIx (eV i) (eC (.int 1))) (aCons (eV 1) aNil))) δ (List.zipWith (fun m d => .tup [.str m, d]) ms (dL ps)) s = .ok ((rootsL ps s.length).map .ob) (s ++ layL N nd ps s.length 0)
  | [], [], s, _, _ => by simp [dL, lcD, rootsL, layL]
  | m :: ms, p :: ps, s, hm, h => by
    have e0 : eCall (S_maker_of d) (aCons (eBin Gs.gIx (eV i) (eC (.int 1))) (aCons (eV 1) aNil)) (δ.set i (some (.tup [.str m, p.d]))) s = .ok (.ob (root p s.length)) (s ++ lay N nd p s.length 0) := by
      simp [hl, List.getElem?_set_ne hi, h1, h p (by simp) s]
    have ih := lc_mk2 (N := N) (nd := nd) (d := d) hi h1 hl ms ps (s ++ lay N nd p s.length 0) (by simpa using hm) fun q hq => h q (by simp [hq])
    simp only [dL, List.zipWith_cons_cons, lcD, v_nm, v_tTrue, e0, ih]
    simp [rootsL, layL, lay_len]
  | [], p :: ps, s, hm, _ => by simp at hm
  | m :: ms, [], s, hm, _ => by simp at hm
theorem lc_marks {i : Nat} {δ : Sl} (hl : i < δ.length) : ∀ (ms : List Str) (ds : List D) (s : Sto), ms.length = ds.length →
    lcD (.nm i) tTrue (eBin Gs.gIx (eV i) (eC (.int 0))) δ (List.zipWith (fun m d => .tup [.str m, d]) ms ds) s = .ok (ms.map .str) s
  | [], [], s, _ => by simp [lcD]
  | m :: ms, d :: ds, s, hm => by
    have ih := lc_marks hl ms ds s (by simpa using hm)
    simp [lcD, hl, ih]
  | [], p :: ps, s, hm => by simp at hm
  | m :: ms, [], s, hm => by simp at hm
theorem gEq_str (x y : Str) : gEq (.str x) (.str y) = some (.bl (decide (x = y))) := by simp
theorem made (N : Str → Nat → Nat) (nd : Nat) : ∀ (d : Nat) (p : Sh), p.ok → p.dep ≤ d → Made N nd d p
  | 0, .mk k ps, _, h, _ => by simp only [Sh.dep] at h; omega
  | d + 1, .mk k ps, ok, hd, s => by
    have ih : ∀ p ∈ ps, Made N nd d p := fun p hp => by
      have o : p.ok ∧ p.dep ≤ d := by
        simp only [Sh.ok] at ok
        simp only [Sh.dep] at hd
        have key : ∀ (qs : List Sh), okL qs → depL qs ≤ d → p ∈ qs → p.ok ∧ p.dep ≤ d := by
          intro qs
          induction qs with
          | nil => intro _ _ h; simp at h
          | cons q qs ih =>
            intro h1 h2 h3
            simp only [okL] at h1
            simp only [depL] at h2
            rcases List.mem_cons.mp h3 with rfl | h3
            · exact ⟨h1.1, by omega⟩
            · exact ih h1.2 (by omega) h3
        exact key ps ok.2 (by omega) hp
      exact made N nd d p o.1 o.2
    show U_maker_of (S_maker_of d) [Sh.d (.mk k ps), .ob nd] s = _
    simp only [Sh.ok] at ok
    obtain ⟨ok, _⟩ := ok
    apply runG_rt
    cases k with
    | whole lo hi =>
      simp only [okK] at ok
      have e : ps = [] := List.eq_nil_of_length_eq_zero ok
      subst e
      simp (decide := true) [Sh.d, kd, dL, init_whole N nd, lay, layL, root_mk, szL, rootsL, cntL]
    | text x =>
      simp only [okK] at ok
      have e : ps = [] := List.eq_nil_of_length_eq_zero ok
      subst e
      simp (decide := true) [Sh.d, kd, dL, init_text N nd, lay, layL, root_mk, szL, rootsL, cntL]
    | use x =>
      simp only [okK] at ok
      have e : ps = [] := List.eq_nil_of_length_eq_zero ok
      subst e
      simp (decide := true) [Sh.d, kd, dL, init_use N nd, lay, layL, root_mk, szL, rootsL, cntL]
    | row =>
      simp only [okK] at ok
      have z := lc_mk (N := N) (nd := nd) (d := d) (i := 4) (by decide) (δ := [some (.tup [.str "row", .tup (dL ps)]), some (.ob nd), some (.str "row"), none, none, none]) rfl (by simp) ps s ih
      have hz : (rootsL ps s.length).length ≤ sizeLine := by rw [rootsL_len]; exact Nat.le_trans ok (by decide)
      have q := init_row N nd (rootsL ps s.length) (cntL N ps) (by rw [cntL_len, rootsL_len]) (by rw [rootsL_len]; exact ok) (s ++ layL N nd ps s.length 0)
      simp only [List.length_append, layL_len, List.append_assoc] at q
      simp (decide := true) [Sh.d, kd, wipeD, z, hz, q, layL_len, lay, root_mk]
    | pick ms =>
      simp only [okK] at ok
      have z := lc_mk2 (N := N) (nd := nd) (d := d) (i := 5) (by decide) (δ := [some (.tup [.str "pick", .tup (List.zipWith (fun m d => .tup [.str m, d]) ms (dL ps))]), some (.ob nd), some (.str "pick"), none, none, none]) rfl (by simp) ms ps s ok.1 ih
      have hz : (rootsL ps s.length).length ≤ sizeLine := by rw [rootsL_len]; exact Nat.le_trans ok.2 (by decide)
      have hz2 : ms.length ≤ sizeLine := by rw [ok.1]; exact Nat.le_trans ok.2 (by decide)
      have z2 := lc_marks (i := 5) (δ := [some (.tup [.str "pick", .tup (List.zipWith (fun m d => .tup [.str m, d]) ms (dL ps))]), some (.ob nd), some (.str "pick"), some (.lst ((rootsL ps s.length).map .ob)), none, none]) (by simp) ms (dL ps) (s ++ layL N nd ps s.length 0) (by rw [dL_length]; exact ok.1)
      have q := init_pick N nd ms (rootsL ps s.length) (cntL N ps) (s ++ layL N nd ps s.length 0)
      simp only [List.length_append, layL_len, List.append_assoc] at q
      simp (decide := true) [Sh.d, kd, wipeD, z, hz, z2, hz2, q, layL_len, lay, root_mk]
    | many =>
      simp only [okK] at ok
      match ps, ok with
      | [p], _ =>
        have m := ih p (by simp) s
        have q := init_many N nd (rootsL [p] s.length) (cntL N [p]) (s ++ lay N nd p s.length 0)
        simp only [List.length_append, lay_len, rootsL, List.map_cons, List.map_nil, List.append_assoc] at q
        simp (decide := true) [Sh.d, kd, dL, m, q, lay_len, lay, layL, root_mk, rootsL, szL]
    | rising =>
      simp only [okK] at ok
      match ps, ok with
      | [p], _ =>
        have m := ih p (by simp) s
        have q := init_rising N nd (rootsL [p] s.length) (cntL N [p]) (s ++ lay N nd p s.length 0)
        simp only [List.length_append, lay_len, rootsL, List.map_cons, List.map_nil, List.append_assoc] at q
        simp (decide := true) [Sh.d, kd, dL, m, q, lay_len, lay, layL, root_mk, rootsL, szL]
    | unlike =>
      simp only [okK] at ok
      match ps, ok with
      | [p], _ =>
        have m := ih p (by simp) s
        have q := init_unlike N nd (rootsL [p] s.length) (cntL N [p]) (s ++ lay N nd p s.length 0)
        simp only [List.length_append, lay_len, rootsL, List.map_cons, List.map_nil, List.append_assoc] at q
        simp (decide := true) [Sh.d, kd, dL, m, q, lay_len, lay, layL, root_mk, rootsL, szL]
    | alike t =>
      simp only [okK] at ok
      match ps, ok.1 with
      | [p], _ =>
        have m := ih p (by simp) s
        have q := init_alike N nd t (rootsL [p] s.length) (cntL N [p]) (s ++ lay N nd p s.length 0)
        simp only [List.length_append, lay_len, rootsL, List.map_cons, List.map_nil, List.append_assoc] at q
        simp (decide := true) [Sh.d, kd, dL, m, q, lay_len, lay, layL, root_mk, rootsL, szL]
end Law

/-! TBc: the tables made. -/
namespace Law
open PySem L2 Gs MCh Tb
theorem get2 {s g : Sto} {a b : O} : (s ++ a :: b :: g)[s.length + 1]? = some b := by
  rw [List.getElem?_append_right (by omega)]; simp
theorem set2 {s g : Sto} {a b o : O} : (s ++ a :: b :: g).set (s.length + 1) o = s ++ a :: o :: g := by
  rw [List.set_append_right _ _ (by omega)]; simp
theorem putKD_new {kvs : List (Key × D)} {k : Key} {d : D} (h : k ∉ kvs.map (·.1)) : putKD kvs k d = kvs ++ [(k, d)] := by
  unfold putKD
  rw [if_neg]
  intro z
  rw [List.any_eq_true] at z
  obtain ⟨x, hx, e⟩ := z
  exact h (by rw [← of_decide_eq_true e]; exact List.mem_map_of_mem hx)
theorem kvsB_keys : ∀ (bk : Bk) (b : Nat), (kvsB bk b).map (·.1) = bk.map fun p => .inr p.1
  | [], _ => rfl
  | (n, p) :: r, b => by simp [kvsB, kvsB_keys r]
theorem kvsB_len : ∀ (bk : Bk) (b : Nat), (kvsB bk b).length = bk.length
  | [], _ => rfl
  | (n, p) :: r, b => by simp [kvsB, kvsB_len r]
theorem tabs_loop {N : Str → Nat → Nat} {s : Sto} {δ0 δ1 δ2 : Option D} : ∀ (bk : Bk) (kvs : List (Key × D)) (G : Sto) (δ3 δ4 : Option D), okB bk → (∀ p ∈ bk, p.2.dep ≤ 20) → (bk.map (·.1)).Nodup → (∀ p ∈ bk, (.inr p.1 : Key) ∉ kvs.map (·.1)) → kvs.length + bk.length ≤ 100 →
    ∃ x3 x4, forD (.tp [.nm 3, .nm 4]) L_Tables___init___0 (bk.map fun p => .tup [.str p.1, p.2.d]) [some (.ob s.length), δ1, δ2, δ3, δ4] (s ++ .ins "Tables" [("named", .ob (s.length + 1))] :: .dK kvs :: G) =
      .nx [some (.ob s.length), δ1, δ2, x3, x4] (s ++ .ins "Tables" [("named", .ob (s.length + 1))] :: .dK (kvs ++ kvsB bk (s.length + 2 + G.length)) :: (G ++ layB N (s.length + 1) bk (s.length + 2 + G.length) 0))
  | [], kvs, G, δ3, δ4, _, _, _, _, _ => ⟨δ3, δ4, by simp [forD, kvsB, layB]⟩
  | (n, p) :: r, kvs, G, δ3, δ4, ok, hd, nd, hk, hl => by
    have m := made N (s.length + 1) 20 p (ok (n, p) (by simp)) (hd (n, p) (by simp)) (s ++ .ins "Tables" [("named", .ob (s.length + 1))] :: .dK kvs :: G)
    have e1 : (s ++ .ins "Tables" [("named", .ob (s.length + 1))] :: .dK kvs :: G).length = s.length + 2 + G.length := by simp; omega
    rw [e1] at m
    have hn : (.inr n : Key) ∉ kvs.map (·.1) := hk (n, p) (by simp)
    have hz : kvs.length < sizeLine := Nat.lt_of_lt_of_le (show kvs.length < 101 by simp at hl; omega) (by decide)
    obtain ⟨x3, x4, ih⟩ := tabs_loop (N := N) (s := s) (δ0 := δ0) (δ1 := δ1) (δ2 := δ2) r (kvs ++ [(.inr n, .ob (root p (s.length + 2 + G.length)))]) (G ++ lay N (s.length + 1) p (s.length + 2 + G.length) 0) (some (.str n)) (some p.d) (fun q hq => ok q (by simp [hq])) (fun q hq => hd q (by simp [hq]))
      (by simp at nd; exact nd.2) (fun q hq => by
        have z1 := hk q (by simp [hq])
        simp at nd
        rw [List.map_append, List.mem_append]
        intro z
        rcases z with z | z
        · exact z1 z
        · simp at z
          exact nd.1 q.2 (by rw [← z]; exact hq)) (by simp at hl ⊢; omega)
    refine ⟨x3, x4, ?_⟩
    have body : L_Tables___init___0 [some (.ob s.length), δ1, δ2, some (.str n), some p.d] (s ++ .ins "Tables" [("named", .ob (s.length + 1))] :: .dK kvs :: G) =
        .nx [some (.ob s.length), δ1, δ2, some (.str n), some p.d] (s ++ .ins "Tables" [("named", .ob (s.length + 1))] :: .dK (kvs ++ [(.inr n, .ob (root p (s.length + 2 + G.length)))]) :: (G ++ lay N (s.length + 1) p (s.length + 2 + G.length) 0)) := by
      simp (decide := true) [L_Tables___init___0, inO_last, cl_named, List.lookup, m, get2, keyD, hz, set2, putKD_new hn]
    simp only [List.map_cons, forD]
    rw [show bindP (.tp [.nm 3, .nm 4]) (.tup [.str n, p.d]) [some (.ob s.length), δ1, δ2, δ3, δ4] = some [some (.ob s.length), δ1, δ2, some (.str n), some p.d] by simp]
    simp only [body, ih]
    simp [kvsB, layB, lay_len, Nat.add_assoc]
/-- all that the tables hold, behind so many turns -/
def tabsO (N : Str → Nat → Nat) (bk : Bk) (p : Sh) (i n : Nat) : List O :=
  .ins "Tables" [("named", .ob (i + 1)), ("top", .ob (root p (i + 2 + szB bk)))] :: .dK (kvsB bk (i + 2)) :: (layB N (i + 1) bk (i + 2) n ++ lay N (i + 1) p (i + 2 + szB bk) n)
theorem tabs_init {N : Str → Nat → Nat} {bk : Bk} {p : Sh} (ok : okB bk) (hd : ∀ p ∈ bk, p.2.dep ≤ 20) (nd : (bk.map (·.1)).Nodup) (hl : bk.length ≤ 100) (okp : p.ok) (hp : p.dep ≤ 20) (s : Sto) :
    S_Tables___init__ [.ob s.length, bookD bk, p.d] (s ++ [.ins "Tables" []]) = .ok .non (s ++ tabsO N bk p s.length 0) := by
  obtain ⟨x3, x4, z⟩ := tabs_loop (N := N) (s := s) (δ0 := none) (δ1 := some (bookD bk)) (δ2 := some p.d) bk [] [] none none ok hd nd (by simp) (by simpa using hl)
  have m := made N (s.length + 1) 20 p okp hp (s ++ .ins "Tables" [("named", .ob (s.length + 1))] :: .dK (kvsB bk (s.length + 2)) :: layB N (s.length + 1) bk (s.length + 2) 0)
  have e1 : (s ++ .ins "Tables" [("named", .ob (s.length + 1))] :: .dK (kvsB bk (s.length + 2)) :: layB N (s.length + 1) bk (s.length + 2) 0).length = s.length + 2 + szB bk := by simp [layB_len]; omega
  rw [e1] at m
  simp only [List.length_nil, Nat.add_zero, List.nil_append] at z
  apply runG_nx
  simp (decide := true) [inO_last, set_last, putD, cl_named, cl_top, List.lookup, bookD, seqOf] at z m ⊢
  simp (decide := true) [z, inO_last, cl_named, cl_top, List.lookup, m, set_last, putD, tabsO]
  exact rfl
end Law

/-! TBd: the next count of each kind of maker. -/
namespace Law
open PySem L2 Gs MCh Tb
theorem sets_big {a n m : Nat} (hn : n < 2 ^ a) (ha : a ≤ 1100000) (hm : m ≤ 100) (s : Sto) : S_sets_among [.int (n : Int), .int (m : Int)] s = .ok (.int (ch n m : Nat)) s := by
  by_cases h : n < m
  · apply runG_rt
    have h' : (n : Int) < m := by omega
    simp [h', ch_small h]
  · have h' : ¬ (n : Int) < m := by omega
    have hc : ch n m = ch n (min m (n - m)) := by
      by_cases h2 : m ≤ n - m
      · rw [Nat.min_eq_left h2]
      · rw [Nat.min_eq_right (by omega)]
        exact ch_symm n m (n - m) (by omega)
    have hmin : (if (n : Int) - m < m then (n : Int) - m else m) = ((min m (n - m) : Nat) : Int) := by
      split <;> omega
    obtain ⟨t, ht⟩ : ∃ t, min m (n - m) = t := ⟨_, rfl⟩
    have ht1 : t ≤ m := by omega
    have ht2 : t ≤ n := by omega
    rw [ht] at hc hmin
    have z := forR (p := .nm 3) (body := L_sets_among_0) (lo := 0) (n := t)
      (δ := [some (.int n), some (.int m), some (.int 1), none]) (s := s)
      (fun k δ s' => s' = s ∧ ∃ y, δ = [some (.int n), some (.int m), some (.int (ch n k : Nat)), y]) ⟨rfl, none, by simp [ch_0]⟩
      (fun i δ s' hi => by
        rintro ⟨rfl, y, rfl⟩
        have hs : (n : Int) - ((i : Nat) : Int) = ((n - i : Nat) : Int) := by omega
        have hb : a * i ≤ 1100000 * 100 := Nat.mul_le_mul ha (by omega)
        have hk : IntMulOk (ch n i : Nat) ((n : Int) - ((i : Nat) : Int)) := by
          rw [hs]
          refine mul_fits (a := a * i + 1) (b := a) ?_ ?_ (by omega)
          · rw [Int.natAbs_natCast]; exact ch_lt hn
          · rw [Int.natAbs_natCast]; omega
        have hl : divOk ((i : Int) + 1) := divOk_small (by omega) (by omega)
        have hd : ((ch n i : Nat) : Int) * ((n : Int) - ((i : Nat) : Int)) / ((i : Int) + 1) = ((ch n (i + 1) : Nat) : Int) := by
          rw [hs, ← ch_div n i]
          push_cast
          rfl
        exact ⟨_, by simp; rfl, _, _, by simp [L_sets_among_0, hk, hl, hd]; first | rfl | exact ⟨rfl, rfl⟩, rfl, _, rfl⟩)
    obtain ⟨δ', s', e, ⟨rfl, y, rfl⟩⟩ := z
    apply runG_rt
    have hr : rngOk (t : Int) := rngOk_nat (by omega)
    simp [h', hmin, hr, e, hc]
theorem bags_big {a n m : Nat} (hn : n < 2 ^ a) (ha : a + 1 ≤ 1100000) (ha1 : 10 ≤ a) (hm : m ≤ 100) (s : Sto) : S_bags_among [.int (n : Int), .int (m : Int)] s = .ok (.int (bg n m : Nat)) s := by
  apply runG_rt
  by_cases h0 : m = 0
  · subst h0
    simp [bg_0]
  · by_cases h1 : n = 0
    · subst h1
      have h0' : ¬ (m : Int) = 0 := by omega
      have e : bg 0 m = 0 := by
        unfold bg
        exact ch_small (by omega)
      simp [h0, h0', e]
    · have h0' : ¬ (m : Int) = 0 := by omega
      have h1' : ¬ (n : Int) = 0 := by omega
      have e : (n : Int) + (m : Int) - 1 = ((n + m - 1 : Nat) : Int) := by omega
      have hp : 2 ^ (a + 1) = 2 ^ a + 2 ^ a := by rw [Nat.pow_succ]; omega
      have hq : 2 ^ 10 ≤ 2 ^ a := Nat.pow_le_pow_right (by decide) ha1
      have q := sets_big (a := a + 1) (n := n + m - 1) (m := m) (by omega) ha hm s
      have eb : bg n m = ch (n + m - 1) m := rfl
      simp [h0, h1, h0', h1', e, q, eb]
/-! ### what is asked of the store, what changes -/
/-- s' is s outside of the m places from b on -/
structure Chg (s s' : Sto) (b m : Nat) : Prop where
  len : s'.length = s.length
  out : ∀ j, (j < b ∨ b + m ≤ j) → s'[j]? = s[j]?
theorem Chg.refl (s : Sto) (b m : Nat) : Chg s s b m := ⟨rfl, fun _ _ => rfl⟩
theorem Chg.trans {s s1 s2 : Sto} {b m : Nat} (a : Chg s s1 b m) (c : Chg s1 s2 b m) : Chg s s2 b m := ⟨c.len.trans a.len, fun j h => (c.out j h).trans (a.out j h)⟩
theorem Chg.wide {s s' : Sto} {b m b' m' : Nat} (a : Chg s s' b m) (h1 : b' ≤ b) (h2 : b + m ≤ b' + m') : Chg s s' b' m' := ⟨a.len, fun j h => a.out j (by omega)⟩
theorem Chg.set {s : Sto} {i b m : Nat} {o : O} (h : b ≤ i) (h2 : i < b + m) : Chg s (s.set i o) b m := ⟨by simp, fun j hj => by rw [List.getElem?_set_ne (by omega)]⟩
theorem Chg.at {s s' : Sto} {b m c : Nat} {xs : List O} (a : Chg s s' b m) (h : At s c xs) (d : c + xs.length ≤ b ∨ b + m ≤ c) : At s' c xs := fun j o e => by
  have hj := (List.getElem?_eq_some_iff.mp e).1
  rw [a.out (c + j) (by omega)]
  exact h j o e
/-- what a thing of the store may become -/
def Gr : O → O → Prop
  | .lst xs, o' => ∃ ys, o' = .lst (xs ++ ys)
  | .dT _, o' => ∃ kvs, o' = .dT kvs
  | .dK kvs, o' => o' = .dK kvs ∨ o' = .fK kvs
  | o, o' => o' = o
theorem Gr.refl : ∀ o : O, Gr o o
  | .lst xs => ⟨[], by simp⟩
  | .dT kvs => ⟨kvs, rfl⟩
  | .dK kvs => .inl rfl
  | .ins _ _ => rfl
  | .tab _ _ => rfl
  | .fK _ => rfl
  | .gone => rfl
theorem Gr.trans : ∀ {a b c : O}, Gr a b → Gr b c → Gr a c
  | .lst xs, _, _, ⟨ys, rfl⟩, ⟨zs, rfl⟩ => ⟨ys ++ zs, by rw [List.append_assoc]⟩
  | .dT _, _, _, ⟨k, rfl⟩, ⟨k2, rfl⟩ => ⟨k2, rfl⟩
  | .dK kvs, _, _, .inl rfl, h => h
  | .dK kvs, _, _, .inr rfl, h => .inr h
  | .ins _ _, _, _, h, h2 => by cases h; exact h2
  | .tab _ _, _, _, h, h2 => by cases h; exact h2
  | .fK _, _, _, h, h2 => by cases h; exact h2
  | .gone, _, _, h, h2 => by cases h; exact h2
def Ext (s s' : Sto) : Prop := ∀ (i : Nat) (o : O), s[i]? = some o → ∃ o', s'[i]? = some o' ∧ Gr o o'
theorem Ext.refl (s : Sto) : Ext s s := fun i o h => ⟨o, h, Gr.refl o⟩
theorem Ext.trans {s s1 s2 : Sto} (a : Ext s s1) (b : Ext s1 s2) : Ext s s2 := fun i o h => by
  obtain ⟨o1, h1, g1⟩ := a i o h
  obtain ⟨o2, h2, g2⟩ := b i o1 h1
  exact ⟨o2, h2, g1.trans g2⟩
theorem Ext.set {s : Sto} {i : Nat} {o o' : O} (h : s[i]? = some o) (g : Gr o o') : Ext s (s.set i o') := fun j u e => by
  by_cases z : i = j
  · subst z
    rw [h] at e
    cases e
    exact ⟨o', by rw [List.getElem?_set_self (List.getElem?_eq_some_iff.mp h).1], g⟩
  · exact ⟨u, by rw [List.getElem?_set_ne z]; exact e, Gr.refl u⟩
/-- a maker's counts: so many at least -/
structure CkAt (s : Sto) (r : Nat) (f : Nat → Nat) (n : Nat) : Prop where
  ins : ∃ k cs nd, s[r]? = some (insO k cs r nd)
  ct : ∃ L, s[r + 1]? = some (.lst (vals f n ++ L))
theorem CkAt.ext {s s' : Sto} {r : Nat} {f : Nat → Nat} {n : Nat} (c : CkAt s r f n) (e : Ext s s') : CkAt s' r f n := by
  obtain ⟨k, cs, nd, h⟩ := c.ins
  obtain ⟨L, h2⟩ := c.ct
  obtain ⟨o1, q1, g1⟩ := e _ _ h
  obtain ⟨o2, q2, g2⟩ := e _ _ h2
  obtain ⟨ys, rfl⟩ := g2
  exact ⟨⟨k, cs, nd, by rw [q1]; unfold insO at g1 ⊢; rw [show o1 = _ from g1]⟩, ⟨L ++ ys, by rw [q2, List.append_assoc]⟩⟩
theorem CkAt.less {s : Sto} {r : Nat} {f : Nat → Nat} {n m : Nat} (c : CkAt s r f n) (h : m ≤ n) : CkAt s r f m := by
  obtain ⟨L, h2⟩ := c.ct
  refine ⟨c.ins, (vals f n).drop m ++ L, ?_⟩
  rw [h2, ← List.append_assoc]
  congr 3
  have e : vals f m = (vals f n).take m := by
    unfold vals
    rw [← List.map_take, List.take_range, Nat.min_eq_left h]
  rw [e, List.take_append_drop]
theorem cl_counts_k (k : Kd) : cl_counts (clsK k) = true := by cases k <;> rfl
theorem cl_within_k (k : Kd) : cl_within (clsK k) = true := by cases k <;> rfl
theorem lk_within (w c : D) (r : List (Str × D)) : List.lookup ("within" : Str) ((("within" : Str), w) :: (("counts" : Str), c) :: r) = some w := rfl
theorem lk_counts (w c : D) (r : List (Str × D)) : List.lookup ("counts" : Str) ((("within" : Str), w) :: (("counts" : Str), c) :: r) = some c := by
  have e : (("counts" : Str) == "within") = false := by decide
  have e2 : (("counts" : Str) == "counts") = true := by decide
  simp only [List.lookup, e, e2]
theorem inO_of {s : Sto} {i : Nat} {k : Kd} {cs : List Nat} {j nd : Nat} (h : s[i]? = some (insO k cs j nd)) : inO s (.ob i) = some (clsK k, ((("within" : Str), D.lst (cs.map D.ob)) :: (("counts" : Str), D.ob (j + 1)) :: fieldsK k j cs.length nd)) := by
  unfold inO
  simp [h, insO]
/-- o.counts -/
theorem at_counts {s : Sto} {r : Nat} {f : Nat → Nat} {n : Nat} {δ : Sl} {o : E} (c : CkAt s r f n) (ho : o δ s = .ok (.ob r) s) : eAt cl_counts "counts" o δ s = .ok (.ob (r + 1)) s := by
  obtain ⟨k, cs, nd, h⟩ := c.ins
  simp [ho, inO_of h, cl_counts_k, lk_counts]
theorem at_within {s : Sto} {i : Nat} {k : Kd} {cs : List Nat} {nd : Nat} {δ : Sl} {o : E} (h : s[i]? = some (insO k cs i nd)) (ho : o δ s = .ok (.ob i) s) : eAt cl_within "within" o δ s = .ok (.lst (cs.map .ob)) s := by
  simp [ho, inO_of h, cl_within_k, lk_within]
theorem CkAt.rsv {s : Sto} {r : Nat} {f : Nat → Nat} {n : Nat} (c : CkAt s r f n) : ∃ L, rsv s (.ob (r + 1)) = .lst (vals f n ++ L) := by
  obtain ⟨L, h⟩ := c.ct
  exact ⟨L, r_ob h⟩
theorem at_app {f : Nat → Nat} {n z : Nat} {L : List D} (h : z < n) : atI (vals f n ++ L) (z : Int) = some (.int (f z : Nat)) := by
  rw [atI_ofNat _ (by rw [List.length_append, vals_len]; omega)]
  have e := vals_get f h
  congr 1
  have q : (vals f n ++ L)[z]? = some (.int (f z : Nat)) := by rw [List.getElem?_append_left (by rw [vals_len]; exact h)]; exact e
  rw [List.getElem?_eq_getElem (by rw [List.length_append, vals_len]; omega)] at q
  exact Option.some.inj q
/-- o[z] of counts -/
theorem ix_counts {s : Sto} {r : Nat} {f : Nat → Nat} {n z : Nat} {δ : Sl} {a b : E} (c : CkAt s r f n) (ha : a δ s = .ok (.ob (r + 1)) s) (hb : b δ s = .ok (.int (z : Int)) s) (h : z < n) : eBin gIx a b δ s = .ok (.int (f z : Nat)) s := by
  obtain ⟨L, e⟩ := c.rsv
  simp [ha, hb, e, at_app h]
/-- the names' makers -/
structure Env (s : Sto) (nd : Nat) (N : Str → Nat → Nat) (P : Str → Prop) (n : Nat) : Prop where
  kvs : ∃ kvs, dkO s (.ob nd) = some kvs ∧ ∀ x, P x → ∃ r, valD kvs (.inr x) = some (.ob r) ∧ CkAt s r (N x) n
theorem Env.ext {s s' : Sto} {nd : Nat} {N : Str → Nat → Nat} {P : Str → Prop} {n : Nat} (e : Env s nd N P n) (x : Ext s s') : Env s' nd N P n := by
  obtain ⟨kvs, h, g⟩ := e.kvs
  refine ⟨kvs, ?_, fun y hy => let ⟨r, h1, h2⟩ := g y hy; ⟨r, h1, h2.ext x⟩⟩
  unfold dkO at h ⊢
  dsimp only at h ⊢
  cases q : s[nd]? with
  | none => rw [q] at h; exact nomatch h
  | some o =>
    rw [q] at h
    obtain ⟨o', q', gr⟩ := x nd o q
    rw [q']
    cases o with
    | dK k => rcases gr with rfl | rfl <;> exact h
    | fK k => cases (show o' = _ from gr); exact h
    | _ => exact nomatch h
end Law

/-! TBe: the next count of each kind of maker, by cases. -/
namespace Law
open PySem L2 Gs MCh Tb
theorem beqS (a b : Str) : (a == b) = decide (a = b) := by
  by_cases h : a = b
  · simp [h]
  · simp [h]
theorem mulB {a b B C : Nat} (ha : a < 2 ^ B) (hb : b < 2 ^ C) (h : B + C ≤ 134217728) : IntMulOk (a : Int) (b : Int) := mul_fits (a := B) (b := C) (by rw [Int.natAbs_natCast]; exact ha) (by rw [Int.natAbs_natCast]; exact hb) h
theorem sl_le {n : Nat} (h : n ≤ 1000) : n ≤ sizeLine := Nat.le_trans h (by decide)
theorem intsOf_map (f : Nat → Nat) : ∀ l : List Nat, intsOf (l.map fun i => .int (f i : Nat)) = some (l.map fun i => (f i : Int))
  | [] => rfl
  | x :: l => by simp only [List.map_cons, intsOf, intsOf_map f l, Option.map_some]
theorem sum_cast (f : Nat → Nat) : ∀ l : List Nat, (l.map fun i => (f i : Int)).sum = ((l.map f).sum : Nat)
  | [] => rfl
  | x :: l => by simp only [List.map_cons, List.sum_cons, sum_cast f l, Int.natCast_add]
theorem sumA_map (f : Nat → Nat) (l : List Nat) : gSumA [.lst (l.map fun i => .int (f i : Nat))] = some (.int ((l.map f).sum : Nat)) := by
  simp only [gSumA, intsOf_map, Option.map_some, sum_cast]
/-- a comprehension over a range whose turns leave the store -/
theorem lcR {i : Nat} {δ : Sl} {e : E} {s : Sto} (f : Nat → Nat) (n : Nat) (h : ∀ z, z < n → e (δ.set i (some (.int (z : Int)))) s = .ok (.int (f z : Nat)) s) : lcD (.nm i) tTrue e δ (rngD 0 n) s = .ok ((List.range n).map fun z => .int (f z : Nat)) s := by
  have e1 : rngD 0 n = (List.range n).map fun (z : Nat) => .int (z : Int) := by simp [rngD]
  rw [e1]
  exact lcD_mapL (g := fun (z : Nat) => .int (z : Int)) (f := fun z => .int (f z : Nat)) (List.range n) fun z hz => ⟨_, v_nm _ _ _, rfl, h z (List.mem_range.mp hz)⟩
theorem k_whole (lo hi : Int) : clsK (.whole lo hi) = "WholeMaker" := id rfl
theorem k_text (x : Str) : clsK (.text x) = "TextMaker" := id rfl
theorem k_row : clsK .row = "RowMaker" := id rfl
theorem k_pick (x : List Str) : clsK (.pick x) = "PickMaker" := id rfl
theorem k_use (x : Str) : clsK (.use x) = "UseMaker" := id rfl
theorem k_many : clsK .many = "ManyMaker" := id rfl
theorem k_rising : clsK .rising = "RisingMaker" := id rfl
theorem k_unlike : clsK .unlike = "UnlikeMaker" := id rfl
theorem k_alike (t : Nat) : clsK (.alike t) = "AlikeMaker" := id rfl
section
variable {s : Sto} {i nd n : Nat} {cs : List Nat} {N : Str → Nat → Nat}
theorem shl_1 {z : Nat} (h : z ≤ 1000) : gShl (.int 1) (.int (z : Int)) = some (.int ((2 : Int) ^ z)) := by
  have h1 : (0 : Int) ≤ (z : Int) ∧ (Builtin.Int.intBits 1 : Int) + (z : Int) ≤ 2 ^ 27 := by
    have : Builtin.Int.intBits 1 ≤ 2 := bits_le (by decide)
    omega
  simp only [gShl]
  rw [if_pos h1]
  simp
theorem next_whole {lo hi : Int} (h : s[i]? = some (insO (.whole lo hi) cs i nd)) (hn : n ≤ 60) : S_WholeMaker_next_count [.ob i, .int (n : Int)] s = .ok (.int (wcnt (hi - lo) n : Nat)) s := by
  apply runG_rt
  cases n with
  | zero => simp [wcnt]
  | succ z =>
    have h0 : ¬ ((z + 1 : Nat) : Int) = 0 := by omega
    have e1 : ((z + 1 : Nat) : Int) - 1 = (z : Int) := by omega
    have hs := shl_1 (z := z) (by omega)
    have e2 : ((wcnt (hi - lo) (z + 1) : Nat) : Int) = max 0 (min (hi - lo) (2 * 2 ^ z - 1) - 2 ^ z + 1) := by
      show (((max 0 (min (hi - lo) (2 * 2 ^ z - 1) - 2 ^ z + 1)).toNat : Nat) : Int) = _
      omega
    rw [e2]
    generalize ((z + 1 : Nat) : Int) = m at h0 e1
    simp (decide := true) [h0, e1, inO_of h, cl_span, k_whole, k_text, k_row, k_pick, k_use, k_many, k_rising, k_unlike, k_alike, fieldsK, List.lookup, beqS, hs, mulOk_2]
    omega
theorem next_text {x : Str} {fs : List (Nat → Nat)} (h : s[i]? = some (insO (.text x) cs i nd)) (ck : CkAt s i (kcnt N (.text x) fs) n) (hx : x.length ≤ 100) : S_TextMaker_next_count [.ob i, .int (n : Int)] s = .ok (.int (x.length ^ n : Nat)) s := by
  apply runG_rt
  cases n with
  | zero => simp
  | succ z =>
    have h0 : ¬ ((z + 1 : Nat) : Int) = 0 := by omega
    have e1 : ((z + 1 : Nat) : Int) - 1 = (z : Int) := by omega
    obtain ⟨L, hr⟩ := ck.rsv
    have ha : atI (vals (kcnt N (.text x) fs) (z + 1) ++ L) (z : Int) = some (.int (x.length ^ z : Nat)) := at_app (by omega)
    have hm : IntMulOk ((x.length ^ z : Nat) : Int) (x.length : Int) := mul_fitsR (by rw [Int.natAbs_natCast]; omega)
    have e2 : ((x.length ^ (z + 1) : Nat) : Int) = ((x.length ^ z : Nat) : Int) * (x.length : Int) := by rw [Nat.pow_succ]; push_cast; rfl
    have hl : x.length ≤ sizeLine := sl_le (by omega)
    rw [e2]
    generalize ((x.length ^ z : Nat) : Int) = y at ha hm
    generalize ((z + 1 : Nat) : Int) = m at h0 e1
    simp (decide := true) [h0, e1, inO_of h, cl_counts_k, lk_counts, hr, ha, cl_signs, k_whole, k_text, k_row, k_pick, k_use, k_many, k_rising, k_unlike, k_alike, fieldsK, List.lookup, beqS, hm, cl_counts, hl]
theorem next_use {x : Str} {P : Str → Prop} (h : s[i]? = some (insO (.use x) cs i nd)) (en : Env s nd N P n) (hx : P x) : S_UseMaker_next_count [.ob i, .int (n : Int)] s = .ok (.int (kcnt N (.use x) [] n : Nat)) s := by
  apply runG_rt
  cases n with
  | zero => simp [kcnt]
  | succ z =>
    have h0 : ¬ ((z + 1 : Nat) : Int) = 0 := by omega
    have e1 : ((z + 1 : Nat) : Int) - 1 = (z : Int) := by omega
    obtain ⟨kvs, hk, g⟩ := en.kvs
    obtain ⟨r, hv, ck⟩ := g x hx
    obtain ⟨k2, cs2, nd2, hi⟩ := ck.ins
    obtain ⟨L, hr⟩ := ck.rsv
    have ha : atI (vals (N x) (z + 1) ++ L) (z : Int) = some (.int (N x z : Nat)) := at_app (by omega)
    simp only [kcnt]
    generalize ((z + 1 : Nat) : Int) = m at h0 e1
    simp (decide := true) [h0, e1, inO_of h, inO_of hi, cl_counts_k, lk_counts, hr, ha, cl_named, cl_name, k_whole, k_text, k_row, k_pick, k_use, k_many, k_rising, k_unlike, k_alike, fieldsK, List.lookup, beqS, hk, hv, keyD]
theorem next_alike {t : Nat} {fs : List (Nat → Nat)} {c : Nat} {f : Nat → Nat} (h : s[i]? = some (insO (.alike t) [c] i nd)) (hf : fs = [f]) (ck : CkAt s c f (n + 1)) (ht : 0 < t) (ht2 : t ≤ 100) : S_AlikeMaker_next_count [.ob i, .int (n : Int)] s = .ok (.int (kcnt N (.alike t) fs n : Nat)) s := by
  apply runG_rt
  subst hf
  obtain ⟨k2, cs2, nd2, hi⟩ := ck.ins
  obtain ⟨L, hr⟩ := ck.rsv
  have hd : divOk (t : Int) := divOk_small (by omega) (by omega)
  by_cases h1 : n < t ∨ n % t ≠ 0
  · have e : kcnt N (.alike t) [f] n = 0 := by simp only [kcnt, if_pos h1]
    rw [e]
    by_cases h2 : n < t
    · simp (decide := true) [inO_of h, cl_times, k_whole, k_text, k_row, k_pick, k_use, k_many, k_rising, k_unlike, k_alike, fieldsK, List.lookup, beqS, h2]
    · have h3 : n % t ≠ 0 := h1.resolve_left h2
      have h4 : ¬ ((n : Int) % (t : Int) = 0) := by
        rw [← Int.natCast_emod]
        omega
      simp (decide := true) [inO_of h, cl_times, k_whole, k_text, k_row, k_pick, k_use, k_many, k_rising, k_unlike, k_alike, fieldsK, List.lookup, beqS, h2, h4, ht]
  · have h2 : ¬ n < t := fun z => h1 (.inl z)
    have h3 : n % t = 0 := Decidable.byContradiction fun z => h1 (.inr z)
    have h4 : (n : Int) % (t : Int) = 0 := by
      rw [← Int.natCast_emod, h3]
      rfl
    have e : kcnt N (.alike t) [f] n = f (n / t - 1) := by
      simp only [kcnt, if_neg h1]
      rfl
    have h5 : 1 ≤ n / t := (Nat.one_le_div_iff ht).mpr (by omega)
    have h6 : n / t ≤ n := Nat.div_le_self _ _
    have e5 : (n : Int) / (t : Int) - 1 = ((n / t - 1 : Nat) : Int) := by
      rw [← Int.natCast_ediv]
      omega
    have ha : atI (vals f (n + 1) ++ L) ((n / t - 1 : Nat) : Int) = some (.int (f (n / t - 1) : Nat)) := at_app (by omega)
    rw [e]
    simp (decide := true) [inO_of h, inO_of hi, cl_times, cl_within, cl_counts_k, lk_within, lk_counts, k_whole, k_text, k_row, k_pick, k_use, k_many, k_rising, k_unlike, k_alike, fieldsK, List.lookup, beqS, h2, h4, ht, hd, e5, hr, ha]
end
end Law

/-! TBf: the next count of many, pick, row. -/
namespace Law
open PySem L2 Gs MCh Tb
theorem row_rng : ∀ m : Nat, m < 101 → rng3Ok ((m : Int) - 1) (-1) (-1) ∧ (Builtin.Range.rangeSize ((m : Int) - 1) (-1) (-1)).toNat = m := by decide +kernel
@[simp] theorem v_iR3 (a : As) (δ : Sl) (s : Sto) : iRange3 a δ s = (a δ s).bind fun ds s1 => match ds with
  | [.int i, .int j, .int c] => if rng3Ok i j c then .ok (rngS i c (Builtin.Range.rangeSize i j c).toNat) s1 else .stk
  | _ => .stk := id rfl
theorem at_obs (cs : List Nat) {k c : Nat} (h : cs[k]? = some c) : atI (cs.map D.ob) (k : Int) = some (.ob c) := by
  have hk := (List.getElem?_eq_some_iff.mp h).1
  rw [atI_ofNat _ (by simpa using hk)]
  simp [(List.getElem?_eq_some_iff.mp h).2]
theorem at_obsF (m i k : Nat) (h : k < m) : atI ((List.range m).map fun j => D.ob (i + j)) (k : Int) = some (.ob (i + k)) := by
  rw [atI_ofNat _ (by simpa using h)]
  simp
section
variable {s : Sto} {i nd n B : Nat} {cs : List Nat} {N : Str → Nat → Nat} {fs : List (Nat → Nat)}
theorem next_many {c : Nat} {f : Nat → Nat} (h : s[i]? = some (insO .many [c] i nd)) (hf : fs = [f]) (own : CkAt s i (kcnt N .many fs) n) (ck : CkAt s c f (n + 1)) (hn : n ≤ 60) (hB : B ≤ 1000000) (b1 : ∀ j, j ≤ n → f j < 2 ^ B) (b2 : ∀ j, j ≤ n → mcnt f j < 2 ^ B) : S_ManyMaker_next_count [.ob i, .int (n : Int)] s = .ok (.int (kcnt N .many fs n : Nat)) s := by
  apply runG_rt
  subst hf
  cases n with
  | zero => simp [kcnt, mcnt_0]
  | succ z =>
    have h0 : ¬ ((z + 1 : Nat) : Int) = 0 := by omega
    have hr : rngOk ((z + 1 : Nat) : Int) := rngOk_nat (by omega)
    have ht : ((z + 1 : Nat) : Int).toNat = z + 1 := by omega
    obtain ⟨k2, cs2, nd2, hi⟩ := ck.ins
    obtain ⟨L, hL⟩ := ck.rsv
    obtain ⟨L0, hL0⟩ := own.rsv
    have hl : (List.range (z + 1)).length ≤ sizeLine := by rw [List.length_range]; exact sl_le (by omega)
    obtain ⟨g, hg⟩ : ∃ g : Nat → Nat, g = fun j => f j * mcnt f (z - j) := ⟨_, rfl⟩
    have lc := lcR (i := 3) (δ := [some (.ob i), some (.int ((z + 1 : Nat) : Int)), some (.ob (c + 1)), none]) (s := s)
      (e := eBin gMul (eBin Gs.gIx (eV 2) (eV 3)) (eBin Gs.gIx (eAt cl_counts "counts" (eV 0)) (eBin Gs.gSub (eBin Gs.gSub (eV 1) (eC (.int 1))) (eV 3)))) g (z + 1) fun j hj => by
        rw [hg]
        have a1 : atI (vals f (z + 1 + 1) ++ L) (j : Int) = some (.int (f j : Nat)) := at_app (by omega)
        have e1 : ((z + 1 : Nat) : Int) - 1 - (j : Int) = ((z - j : Nat) : Int) := by omega
        have a2 : atI (vals (kcnt N .many [f]) (z + 1) ++ L0) ((z - j : Nat) : Int) = some (.int (mcnt f (z - j) : Nat)) := at_app (by omega)
        have hm : IntMulOk (f j : Int) (mcnt f (z - j) : Int) := mulB (b1 j (by omega)) (b2 (z - j) (by omega)) (by omega)
        generalize ((z + 1 : Nat) : Int) = m at e1
        simp (decide := true) [hL, a1, inO_of h, cl_counts_k, lk_counts, k_many, e1, hL0, a2, hm]
    have e : kcnt N .many [f] (z + 1) = ((List.range (z + 1)).map g).sum := by rw [hg]; exact mcnt_s f z
    have su := sumA_map g (List.range (z + 1))
    rw [e]
    generalize ((List.range (z + 1)).map g).sum = tot at su
    generalize ((z + 1 : Nat) : Int) = m at h0 hr ht lc
    simp only [List.length_range] at hl
    simp (decide := true) [h0, inO_of h, inO_of hi, cl_counts_k, lk_within, lk_counts, k_many, hr, ht, wipeD, lc, hl, su]
theorem lc_counts {δ : Sl} {e : E} (he : ∀ c f, CkAt s c f (n + 1) → e (δ.set 2 (some (.ob c))) s = .ok (.int (f n : Nat)) s) : ∀ (cs : List Nat) (fs : List (Nat → Nat)), cs.length = fs.length → (∀ (j c : Nat) (f : Nat → Nat), cs[j]? = some c → fs[j]? = some f → CkAt s c f (n + 1)) →
    lcD (.nm 2) tTrue e δ (cs.map .ob) s = .ok (fs.map fun f => .int (f n : Nat)) s
  | [], [], _, _ => by simp [lcD]
  | c :: cs, f :: fs, hl, h => by
    have ih := lc_counts he cs fs (by simpa using hl) fun j c f h1 h2 => h (j + 1) c f (by simpa using h1) (by simpa using h2)
    have e1 := he c f (h 0 c f rfl rfl)
    simp only [List.map_cons, lcD, v_nm, v_tTrue, e1, ih]
  | [], f :: fs, hl, _ => by simp at hl
  | c :: cs, [], hl, _ => by simp at hl
theorem intsOf_fs (n : Nat) : ∀ fs : List (Nat → Nat), intsOf (fs.map fun f => .int (f n : Nat)) = some (fs.map fun f => (f n : Int))
  | [] => rfl
  | x :: l => by simp only [List.map_cons, intsOf, intsOf_fs n l, Option.map_some]
theorem sum_fs (n : Nat) : ∀ fs : List (Nat → Nat), (fs.map fun f => (f n : Int)).sum = ((fs.map fun f => f n).sum : Nat)
  | [] => rfl
  | x :: l => by simp only [List.map_cons, List.sum_cons, sum_fs n l, Int.natCast_add]
theorem next_pick {ms : List Str} (h : s[i]? = some (insO (.pick ms) cs i nd)) (hl : cs.length = fs.length) (h100 : fs.length ≤ 100) (ck : ∀ (j c : Nat) (f : Nat → Nat), cs[j]? = some c → fs[j]? = some f → CkAt s c f (n + 1)) : S_PickMaker_next_count [.ob i, .int (n : Int)] s = .ok (.int (kcnt N (.pick ms) fs n : Nat)) s := by
  apply runG_rt
  have lc := lc_counts (s := s) (n := n) (δ := [some (.ob i), some (.int (n : Int)), none]) (e := eBin Gs.gIx (eAt cl_counts "counts" (eV 2)) (eV 1)) (fun c f ck => by
    obtain ⟨k2, cs2, nd2, hi⟩ := ck.ins
    obtain ⟨L, hL⟩ := ck.rsv
    have a1 : atI (vals f (n + 1) ++ L) (n : Int) = some (.int (f n : Nat)) := at_app (by omega)
    simp (decide := true) [inO_of hi, cl_counts_k, lk_counts, hL, a1]) cs fs hl ck
  have hz : fs.length ≤ sizeLine := sl_le (by omega)
  have su : gSumA [.lst (fs.map fun f => .int (f n : Nat))] = some (.int (kcnt N (.pick ms) fs n : Nat)) := by
    simp only [gSumA, intsOf_fs, Option.map_some, sum_fs, kcnt]
  simp (decide := true) [inO_of h, k_pick, lk_within, wipeD, lc, hz, su]
/-- the lists of a row's maker, those from q on one longer -/
def Rst (s : Sto) (i : Nat) (fs : List (Nat → Nat)) (n q : Nat) : Prop := ∀ j, j ≤ fs.length → s[i + 2 + j]? = some (.lst (vals (rcnt (fs.drop j)) (if j < q then n else n + 1)))
theorem rests_get : ∀ (fs : List (Nat → Nat)) (n j : Nat), j ≤ fs.length → (restsO fs n)[j]? = some (.lst (vals (rcnt (fs.drop j)) n))
  | [], n, j, h => by
    obtain rfl : j = 0 := by simpa using h
    rfl
  | f :: fs, n, 0, h => rfl
  | f :: fs, n, j + 1, h => by
    simp only [restsO, List.getElem?_cons_succ, List.drop_succ_cons]
    exact rests_get fs n j (by simpa using h)
theorem next_row (h : s[i]? = some (insO .row cs i nd)) (hl : cs.length = fs.length) (h100 : fs.length ≤ 100) (ck : ∀ (j c : Nat) (f : Nat → Nat), cs[j]? = some c → fs[j]? = some f → CkAt s c f (n + 1)) (hx : At s (i + 2) (restsO fs n)) (hn : n ≤ 60) (hB : B ≤ 1000000)
    (b1 : ∀ f ∈ fs, ∀ j, j ≤ n → f j < 2 ^ B) (b2 : ∀ d j, j ≤ n → rcnt (fs.drop d) j < 2 ^ B) : ∃ s', S_RowMaker_next_count [.ob i, .int (n : Int)] s = .ok (.int (rcnt fs n : Nat)) s' ∧ At s' (i + 2) (restsO fs (n + 1)) ∧ Chg s s' (i + 2) (fs.length + 1) ∧ Ext s s' := by
  obtain ⟨m, hm⟩ : ∃ m, fs.length = m := ⟨_, rfl⟩
  have hcs : cs.length = m := by omega
  have r0 : ∀ j, j ≤ m → s[i + 2 + j]? = some (.lst (vals (rcnt (fs.drop j)) n)) := fun j hj => hx j _ (rests_get fs n j (by omega))
  -- what is read of the maker
  have hget : ∀ s' : Sto, Ext s s' → s'[i]? = some (insO .row cs i nd) := fun s' x => by
    obtain ⟨o, q, g⟩ := x _ _ h
    rw [q]
    exact congrArg some g
  have hsz : m + 1 ≤ sizeLine := sl_le (by omega)
  -- the last list first
  have hrc : ((rcnt [] n : Nat) : Int) = if n = 0 then 1 else 0 := by
    by_cases z : n = 0
    · simp [rcnt, z]
    · simp [rcnt, z]
  obtain ⟨s1, hs1⟩ : ∃ s1, s.set (i + 2 + m) (.lst (vals (rcnt (fs.drop m)) n ++ [.int (if n = 0 then 1 else 0)])) = s1 := ⟨_, rfl⟩
  have em : fs.drop m = [] := by rw [← hm]; exact List.drop_length
  have c1 : Chg s s1 (i + 2) (m + 1) := by rw [← hs1]; exact Chg.set (by omega) (by omega)
  have x1 : Ext s s1 := by rw [← hs1]; exact Ext.set (r0 m (Nat.le_refl _)) ⟨_, rfl⟩
  have R1 : Rst s1 i fs n m := fun j hj => by
    rw [← hs1]
    by_cases z : j = m
    · subst z
      rw [List.getElem?_set_self (List.getElem?_eq_some_iff.mp (r0 j (Nat.le_refl _))).1, show (if j < j then n else n + 1) = n + 1 from if_neg (by omega), vals_s, em, hrc]
    · rw [List.getElem?_set_ne (by omega), if_pos (by omega)]
      exact r0 j (by omega)
  have key := forD_inv (p := .nm 3) (body := L_RowMaker_next_count_0) (fun t δ s' => Rst s' i fs n (m - t) ∧ Chg s s' (i + 2) (m + 1) ∧ Ext s s' ∧ ∃ y3 y4 y5 y6, δ = [some (.ob i), some (.int (n : Int)), some (.int (m : Int)), y3, y4, y5, y6])
    (rngS ((m : Int) - 1) (-1) m) 0 [some (.ob i), some (.int (n : Int)), some (.int (m : Int)), none, none, none, none] s1 ⟨R1, c1, x1, none, none, none, none, rfl⟩ fun t d δ s2 hd hi => by
      rw [Nat.zero_add] at hi ⊢
      obtain ⟨R2, c2, x2, y3, y4, y5, y6, rfl⟩ := hi
      have htm : t < m := by
        have := (List.getElem?_eq_some_iff.mp hd).1
        simpa [rngS] using this
      rw [rngS_get htm] at hd
      obtain ⟨k, hk⟩ : ∃ k, m - 1 - t = k := ⟨_, rfl⟩
      have ek : (m : Int) - 1 + (t : Int) * -1 = (k : Int) := by omega
      rw [ek] at hd
      cases hd
      obtain ⟨c, hc⟩ : ∃ c, cs[k]? = some c := ⟨cs[k], List.getElem?_eq_getElem (by omega)⟩
      obtain ⟨f, hf⟩ : ∃ f, fs[k]? = some f := ⟨fs[k], List.getElem?_eq_getElem (by omega)⟩
      have ck2 := (ck k c f hc hf).ext x2
      obtain ⟨k2, cs2, nd2, hi2⟩ := ck2.ins
      obtain ⟨L, hL⟩ := ck2.rsv
      have hins := hget s2 x2
      have ed : fs.drop k = f :: fs.drop (k + 1) := by
        have hkl := (List.getElem?_eq_some_iff.mp hf).1
        rw [List.drop_eq_getElem_cons hkl, (List.getElem?_eq_some_iff.mp hf).2]
      have rk : s2[i + 2 + k]? = some (.lst (vals (rcnt (fs.drop k)) n)) := by
        have q := R2 k (by omega)
        rw [if_pos (by omega)] at q
        exact q
      have rk1 : s2[i + 2 + (k + 1)]? = some (.lst (vals (rcnt (fs.drop (k + 1))) (n + 1))) := by
        have q := R2 (k + 1) (by omega)
        rw [if_neg (by omega)] at q
        exact q
      obtain ⟨g, hg⟩ : ∃ g : Nat → Nat, g = fun j => f j * rcnt (fs.drop (k + 1)) (n - j) := ⟨_, rfl⟩
      have lc := lcR (i := 6) (δ := [some (.ob i), some (.int (n : Int)), some (.int (m : Int)), some (.int (k : Int)), some (.ob (c + 1)), some (.ob (i + 2 + (k + 1))), none]) (s := s2)
        (e := eBin gMul (eBin Gs.gIx (eV 4) (eV 6)) (eBin Gs.gIx (eV 5) (eBin Gs.gSub (eV 1) (eV 6)))) g (n + 1) fun j hj => by
          rw [hg]
          have a1 : atI (vals f (n + 1) ++ L) (j : Int) = some (.int (f j : Nat)) := at_app (by omega)
          have e1 : (n : Int) - (j : Int) = ((n - j : Nat) : Int) := by omega
          have a2 : atI (vals (rcnt (fs.drop (k + 1))) (n + 1)) ((n - j : Nat) : Int) = some (.int (rcnt (fs.drop (k + 1)) (n - j) : Nat)) := vals_at _ (by omega)
          have hq : IntMulOk (f j : Int) (rcnt (fs.drop (k + 1)) (n - j) : Int) := mulB (b1 f (List.mem_of_getElem? hf) j (by omega)) (b2 (k + 1) (n - j) (by omega)) (by omega)
          simp (decide := true) [hL, a1, e1, r_ob rk1, a2, hq]
      have su := sumA_map g (List.range (n + 1))
      have ev : rcnt (fs.drop k) n = ((List.range (n + 1)).map g).sum := by rw [ed, hg]; rfl
      refine ⟨_, v_nm _ _ _, [some (.ob i), some (.int (n : Int)), some (.int (m : Int)), some (.int (k : Int)), some (.ob (c + 1)), some (.ob (i + 2 + (k + 1))), y6], s2.set (i + 2 + k) (.lst (vals (rcnt (fs.drop k)) n ++ [.int (rcnt (fs.drop k) n : Nat)])), ?_, ?_, c2.trans (Chg.set (by omega) (by omega)), x2.trans (Ext.set rk ⟨_, rfl⟩), _, _, _, _, rfl⟩
      · have hr : rngOk ((n : Int) + 1) := by
          have := rngOk_nat (j := n + 1) (by omega)
          simpa using this
        have ht : ((n : Int) + 1).toNat = n + 1 := by omega
        have o1 : atI (cs.map D.ob) (k : Int) = some (.ob c) := at_obs cs hc
        have o2 : atI ((List.range (cs.length + 1)).map fun j => D.ob (i + 2 + j)) (k : Int) = some (.ob (i + 2 + k)) := at_obsF _ _ _ (by omega)
        have o3 : atI ((List.range (cs.length + 1)).map fun j => D.ob (i + 2 + j)) ((k : Int) + 1) = some (.ob (i + 2 + (k + 1))) := by
          have := at_obsF (cs.length + 1) (i + 2) (k + 1) (by omega)
          simpa using this
        have hl2 : n + 1 ≤ sizeLine := sl_le (by omega)
        have hl3 : (vals (rcnt (fs.drop k)) n).length < sizeLine := by rw [vals_len]; omega
        rw [← ev] at su
        generalize rcnt (fs.drop k) n = tot at su
        simp (decide := true) [L_RowMaker_next_count_0, inO_of hins, inO_of hi2, cl_counts_k, cl_rests, k_row, lk_within, lk_counts, fieldsK, List.lookup, beqS, o1, o2, o3, hr, ht, wipeD, lc, hl2, su, lsO_ob rk, hl3, stO]
      · intro j hj
        by_cases z : j = k
        · subst z
          rw [List.getElem?_set_self (List.getElem?_eq_some_iff.mp rk).1, if_neg (by omega), vals_s]
        · rw [List.getElem?_set_ne (by omega), R2 j hj]
          by_cases z1 : j < m - t
          · rw [if_pos z1, if_pos (by omega)]
          · rw [if_neg z1, if_neg (by omega)]
  obtain ⟨δ', s', e, R3, c3, x3, y3, y4, y5, y6, rfl⟩ := key
  have hlen : (rngS ((m : Int) - 1) (-1) m).length = m := by simp [rngS]
  rw [Nat.zero_add, hlen, Nat.sub_self] at R3
  refine ⟨s', ?_, ?_, by rw [hm]; exact c3, x3⟩
  · obtain ⟨r1, r2⟩ := row_rng m (by omega)
    have o2 : atI ((List.range (cs.length + 1)).map fun j => D.ob (i + 2 + j)) (m : Int) = some (.ob (i + 2 + m)) := at_obsF _ _ _ (by omega)
    have o0 : atI ((List.range (cs.length + 1)).map fun j => D.ob (i + 2 + j)) 0 = some (.ob (i + 2)) := at_obsF _ (i + 2) 0 (by omega)
    have q0 := R3 0 (by omega)
    rw [if_neg (by omega)] at q0
    simp only [List.drop_zero, Nat.add_zero] at q0
    have a0 : atI (vals (rcnt fs) (n + 1)) (n : Int) = some (.int (rcnt fs n : Nat)) := vals_at _ (by omega)
    have hl3 : (vals (rcnt (fs.drop m)) n).length < sizeLine := by rw [vals_len]; exact Nat.lt_of_lt_of_le (show n < 1000 by omega) (by decide)
    have hlc : cs.length ≤ sizeLine := sl_le (by omega)
    rw [hcs] at o2 o0
    apply runG_rt
    simp (decide := true) [inO_of h, cl_rests, k_row, lk_within, fieldsK, List.lookup, beqS, hcs, o2, lsO_ob (r0 m (Nat.le_refl _)), hl3, stO, hs1, r1, r2, e, inO_of (hget s' x3), o0, r_ob q0, a0]
  · intro j o hj
    have hj2 := (List.getElem?_eq_some_iff.mp hj).1
    rw [restsO_len] at hj2
    rw [rests_get fs (n + 1) j (by omega)] at hj
    cases hj
    have q := R3 j (by omega)
    rw [if_neg (by omega)] at q
    exact q
end
end Law

/-! TBg: the next count of lists in order. -/
namespace Law
open PySem L2 Gs MCh Tb
section
variable {κ : Type} [DecidableEq κ]
theorem valD_app (a b : List (κ × D)) (k : κ) : valD (a ++ b) k = (valD a k).or (valD b k) := by
  unfold valD
  rw [List.find?_append]
  cases a.find? fun kv => decide (kv.1 = k) <;> simp
theorem putKD_none {kvs : List (κ × D)} {k : κ} {d : D} (h : valD kvs k = none) : putKD kvs k d = kvs ++ [(k, d)] := by
  unfold putKD
  rw [if_neg]
  intro z
  rw [List.any_eq_true] at z
  obtain ⟨x, hx, e⟩ := z
  unfold valD at h
  simp only [Option.map_eq_none_iff, List.find?_eq_none] at h
  exact h x hx e
end
abbrev ky (l z : Nat) : List Key := [.inl (l : Int), .inl (z : Int)]
theorem ky_inj {l z l' z' : Nat} : ky l z = ky l' z' ↔ l = l' ∧ z = z' := by
  unfold ky
  constructor
  · intro h
    simp only [List.cons.injEq, Sum.inl.injEq, and_true] at h
    omega
  · rintro ⟨rfl, rfl⟩; rfl
theorem valD_row (m : Nat) (g : Nat → D) (l z : Nat) : ∀ L : List Nat, valD (L.map fun j => (ky j m, g j)) (ky l z) = if z = m ∧ l ∈ L then some (g l) else none
  | [] => by simp [valD]
  | j :: L => by
    have ih := valD_row m g l z L
    unfold valD at ih ⊢
    rw [List.map_cons, List.find?_cons]
    by_cases e : j = l ∧ m = z
    · obtain ⟨rfl, rfl⟩ := e
      rw [show decide ((ky j m, g j).1 = ky j m) = true from decide_eq_true rfl]
      simp
    · have e2 : ¬ (ky j m, g j).1 = ky l z := fun q => e (ky_inj.mp q)
      rw [decide_eq_false e2, ih]
      by_cases hz : z = m
      · subst hz
        have hj : ¬ j = l := fun q => e ⟨q, rfl⟩
        simp [Ne.symm hj, eq_comm]
        try (have hj2 : ¬ l = j := fun q => hj q.symm; simp [hj2])
      · simp [hz]
theorem mem_down {m t l : Nat} (h : t ≤ m) : l ∈ (List.range m).reverse.take t ↔ l < m ∧ m - t ≤ l := by
  have e : (List.range m).reverse.take t = ((List.range m).drop (m - t)).reverse := by
    rw [List.take_reverse, List.length_range]
  rw [e, List.mem_reverse, List.mem_drop_iff_getElem]
  constructor
  · rintro ⟨j, hj, rfl⟩
    simp at hj ⊢
    omega
  · rintro ⟨h1, h2⟩
    exact ⟨l - (m - t), by simp; omega, by simp; omega⟩
def waysT (am : Nat → Nat → Nat) (f : Nat → Nat) (n t : Nat) : List (List Key × D) := ways am f n ++ ((List.range n).reverse.take t).map fun (l : Nat) => (ky l n, D.int (beyond am f l n : Nat))
theorem ways_len (am : Nat → Nat → Nat) (f : Nat → Nat) : ∀ n, (ways am f n).length ≤ n * n
  | 0 => Nat.le_refl _
  | n + 1 => by
    have ih := ways_len am f n
    simp only [ways, waysZ, List.length_append, List.length_map, List.length_reverse, List.length_range]
    have : (n + 1) * (n + 1) = n * n + n + n + 1 := by rw [Nat.add_mul, Nat.mul_add]; omega
    omega
theorem waysT_0 (am : Nat → Nat → Nat) (f : Nat → Nat) (n : Nat) : waysT am f n 0 = ways am f n := by simp [waysT]
theorem waysT_n (am : Nat → Nat → Nat) (f : Nat → Nat) (n : Nat) : waysT am f n n = ways am f (n + 1) := by
  have : (List.range n).reverse.take n = (List.range n).reverse := List.take_of_length_le (by simp)
  simp only [waysT, this, ways, waysZ]
theorem ways_val (am : Nat → Nat → Nat) (f : Nat → Nat) (l z : Nat) : ∀ n, valD (ways am f n) (ky l z) = if l < z ∧ z < n then some (.int (beyond am f l z : Nat)) else none
  | 0 => by simp [ways, valD]
  | n + 1 => by
    rw [ways, valD_app, ways_val am f l z n]
    have q := valD_row n (fun l => D.int (beyond am f l n : Nat)) l z (List.range n).reverse
    unfold waysZ
    rw [q]
    by_cases h1 : l < z ∧ z < n
    · rw [if_pos h1, if_neg (fun q => by have := q.1; omega), if_pos ⟨h1.1, by omega⟩]
      rfl
    · rw [if_neg h1]
      by_cases h2 : z = n ∧ l < n
      · obtain ⟨rfl, h3⟩ := h2
        rw [if_pos (by simp [h3]), if_pos ⟨h3, by omega⟩]
        rfl
      · rw [if_neg (by simp only [List.mem_reverse, List.mem_range]; exact h2), if_neg (by omega)]
        rfl
theorem waysT_val (am : Nat → Nat → Nat) (f : Nat → Nat) (n t l z : Nat) (ht : t ≤ n) : valD (waysT am f n t) (ky l z) = if l < z ∧ (z < n ∨ (z = n ∧ n - t ≤ l)) then some (.int (beyond am f l z : Nat)) else none := by
  unfold waysT
  rw [valD_app, ways_val]
  have q := valD_row n (fun l => D.int (beyond am f l n : Nat)) l z ((List.range n).reverse.take t)
  rw [q]
  by_cases h1 : l < z ∧ z < n
  · rw [if_pos h1, if_neg (fun q => by have := q.1; omega), if_pos ⟨h1.1, .inl h1.2⟩]
    rfl
  · rw [if_neg h1]
    by_cases h2 : z = n ∧ l ∈ (List.range n).reverse.take t
    · obtain ⟨rfl, h3⟩ := h2
      have h4 := (mem_down ht).mp h3
      rw [if_pos ⟨rfl, h3⟩, if_pos ⟨h4.1, .inr ⟨rfl, h4.2⟩⟩]
      rfl
    · rw [if_neg h2, if_neg fun h5 => ?_]
      · rfl
      · rcases h5.2 with h6 | h6
        · exact h1 ⟨h5.1, h6⟩
        · refine h2 ⟨h6.1, (mem_down ht).mpr ⟨by omega, h6.2⟩⟩
theorem waysT_s (am : Nat → Nat → Nat) (f : Nat → Nat) {n t : Nat} (ht : t < n) : waysT am f n (t + 1) = waysT am f n t ++ [(ky (n - 1 - t) n, .int (beyond am f (n - 1 - t) n : Nat))] := by
  unfold waysT
  rw [List.take_succ, List.map_append, List.append_assoc]
  congr 2
  have : ((List.range n).reverse)[t]? = some (n - 1 - t) := by
    rw [List.getElem?_reverse (by simpa using ht), List.length_range, List.getElem?_range (by omega)]
  rw [this]
  rfl
def inOrd (k : Kd) : Prop := k = .rising ∨ k = .unlike
section
variable {s : Sto} {i nd n t B c : Nat} {N : Str → Nat → Nat} {f : Nat → Nat} {k : Kd}
theorem f_order (hk : inOrd k) (i m nd : Nat) : fieldsK k i m nd = [(("ways" : Str), D.ob (i + 2))] := by rcases hk with rfl | rfl <;> rfl
theorem m_beyond (hk : inOrd k) (F : List D → Sto → R D) : mt_beyond F (clsK k) = some F := by rcases hk with rfl | rfl <;> rfl
theorem m_block (hk : inOrd k) (F : List D → Sto → R D) : mt_block F (clsK k) = some F := by rcases hk with rfl | rfl <;> rfl
theorem c_ways (hk : inOrd k) : cl_ways (clsK k) = true := by rcases hk with rfl | rfl <;> rfl
/-- the table, so far -/
theorem beyond_val (hk : inOrd k) (h : s[i]? = some (insO k [c] i nd)) (hw : s[i + 2]? = some (.dT (waysT (amK k) f n t))) (ht : t ≤ n) (l z : Nat) (hz : z < n ∨ (z = n ∧ n - t ≤ l)) : S_RisingMaker_beyond [.ob i, .int (l : Int), .int (z : Int)] s = .ok (.int (beyond (amK k) f l z : Nat)) s := by
  apply runG_rt
  by_cases h0 : z = 0
  · subst h0
    simp [beyond_0]
  · have hv := waysT_val (amK k) f n t l z ht
    have e : ((valD (waysT (amK k) f n t) (ky l z)).getD (.int 0)) = .int (beyond (amK k) f l z : Nat) := by
      rw [hv]
      by_cases hl : l < z
      · rw [if_pos ⟨hl, hz⟩]
        rfl
      · rw [if_neg fun q => hl q.1, beyond_hi (amK_0 k) f (by omega) (by omega)]
        rfl
    have hd : dtO s (.ob (i + 2)) = some (waysT (amK k) f n t) := by unfold dtO; simp [hw]
    have h2 : 2 ≤ sizeLine := by decide
    have h0' : ¬ (z : Int) = 0 := by omega
    simp (decide := true) [h0, inO_of h, c_ways hk, f_order hk, List.lookup, beqS, hd, h2, keysD, keyD]
    exact e
theorem among_val (hk : inOrd k) {a b B : Nat} (ha : a < 2 ^ B) (hB : B ≤ 1000000) (hB1 : 10 ≤ B) (hb : b ≤ 100) {δ : Sl} {o : E} {as : As} (h : s[i]? = some (insO k [c] i nd)) (ho : o δ s = .ok (.ob i) s) (has : as δ s = .ok [.int (a : Int), .int (b : Int)] s) :
    eMeth (mt_among S_RisingMaker_among S_UnlikeMaker_among) "among" o as δ s = .ok (.int (amK k a b : Nat)) s := by
  have q1 := bags_big (n := a) (m := b) ha (by omega) hB1 hb s
  have q2 := sets_big (n := a) (m := b) ha (by omega) hb s
  have e1 : S_RisingMaker_among [.ob i, .int (a : Int), .int (b : Int)] s = .ok (.int (bg a b : Nat)) s := by apply runG_rt; simp [q1]
  have e2 : S_UnlikeMaker_among [.ob i, .int (a : Int), .int (b : Int)] s = .ok (.int (ch a b : Nat)) s := by apply runG_rt; simp [q2]
  rcases hk with rfl | rfl
  · simp (decide := true) [ho, inO_of h, has, e1, fieldsK, List.lookup, beqS, mt_among, amK, k_rising]
  · simp (decide := true) [ho, inO_of h, has, e2, fieldsK, List.lookup, beqS, mt_among, amK, k_unlike]
theorem block_val (hk : inOrd k) (h : s[i]? = some (insO k [c] i nd)) (hw : s[i + 2]? = some (.dT (waysT (amK k) f n t))) (ht : t ≤ n) (ck : CkAt s c f (n + 1)) (hn : n ≤ 60) (hB : B ≤ 1000000) (hB1 : 10 ≤ B) (b1 : ∀ j, j ≤ n → f j < 2 ^ B)
    (b2 : ∀ l j, j ≤ n → beyond (amK k) f l j < 2 ^ B) (b3 : ∀ l d, d ≤ n → l ≤ n → amK k (f l) d < 2 ^ (70 * B)) (l z d : Nat) (hl : l < n) (hz : z ≤ n) (hd : d * (l + 1) ≤ z) (hz2 : z - d * (l + 1) < n ∨ (z - d * (l + 1) = n ∧ n - t ≤ l + 1)) :
    S_RisingMaker_block [.ob i, .int (l : Int), .int (z : Int), .int (d : Int)] s = .ok (.int (amK k (f l) d * beyond (amK k) f (l + 1) (z - d * (l + 1)) : Nat)) s := by
  apply runG_rt
  obtain ⟨k2, cs2, nd2, hi⟩ := ck.ins
  obtain ⟨L, hL⟩ := ck.rsv
  have a1 : atI (vals f (n + 1) ++ L) (l : Int) = some (.int (f l : Nat)) := at_app (by omega)
  have hdn : d ≤ n := by
    have : d * 1 ≤ d * (l + 1) := Nat.mul_le_mul_left d (by omega)
    omega
  have am := among_val hk (a := f l) (b := d) (B := B) (b1 l (by omega)) hB hB1 (by omega) (δ := [some (.ob i), some (.int (l : Int)), some (.int (z : Int)), some (.int (d : Int)), none]) (o := eV 0)
    (as := aCons (eBin Gs.gIx (eAt cl_counts "counts" (eBin Gs.gIx (eAt cl_within "within" (eV 0)) (eC (.int 0)))) (eV 1)) (aCons (eV 3) aNil)) h (by simp)
    (by simp (decide := true) [inO_of h, inO_of hi, cl_within_k, cl_counts_k, lk_within, lk_counts, hL, a1])
  have bv := beyond_val hk h hw ht (l + 1) (z - d * (l + 1)) hz2
  have e1 : (z : Int) - (d : Int) * ((l : Int) + 1) = ((z - d * (l + 1) : Nat) : Int) := by
    rw [Int.natCast_sub hd]
    push_cast
    rfl
  have e2 : (l : Int) + 1 = ((l + 1 : Nat) : Int) := by push_cast; rfl
  have hm : IntMulOk (amK k (f l) d : Int) (beyond (amK k) f (l + 1) (z - d * (l + 1)) : Int) := mulB (b3 l d hdn (by omega)) (b2 (l + 1) (z - d * (l + 1)) (by omega)) (by omega)
  have hm2 : IntMulOk (d : Int) ((l + 1 : Nat) : Int) := mul_fitsR (by rw [Int.natAbs_natCast]; omega)
  have e3 : ((amK k (f l) d * beyond (amK k) f (l + 1) (z - d * (l + 1)) : Nat) : Int) = (amK k (f l) d : Int) * (beyond (amK k) f (l + 1) (z - d * (l + 1)) : Int) := Int.natCast_mul _ _
  have e4 : (z : Int) - (d : Int) * ((l + 1 : Nat) : Int) = ((z - d * (l + 1) : Nat) : Int) := by rw [← e2]; exact e1
  rw [e3]
  generalize z - d * (l + 1) = zz at e4 bv hm
  generalize beyond (amK k) f (l + 1) zz = bb at bv hm
  generalize amK k (f l) d = aa at am hm
  generalize hll : l + 1 = ll at e2 e4 bv hm2
  have bm : eMeth (mt_beyond S_RisingMaker_beyond) "beyond" (eV 0) (aCons (eBin gAdd (eV 1) (eC (.int 1))) (aCons (eBin Gs.gSub (eV 2) (eBin gMul (eV 3) (eBin gAdd (eV 1) (eC (.int 1))))) aNil))
      [some (.ob i), some (.int (l : Int)), some (.int (z : Int)), some (.int (d : Int)), some (.int (aa : Int))] s = .ok (.int (bb : Int)) s := by
    simp (decide := true) [inO_of h, m_beyond hk, f_order hk, List.lookup, beqS, e2, hm2, e4, bv]
  simp [-v_eMeth, am, bm, hm]
theorem next_order (hk : inOrd k) (h : s[i]? = some (insO k [c] i nd)) (hw : s[i + 2]? = some (.dT (ways (amK k) f n))) (ck : CkAt s c f (n + 1)) (hn : n ≤ 60) (hB : B ≤ 1000000) (hB1 : 10 ≤ B) (b1 : ∀ j, j ≤ n → f j < 2 ^ B)
    (b2 : ∀ l j, j ≤ n → beyond (amK k) f l j < 2 ^ B) (b3 : ∀ l d, d ≤ n → l ≤ n → amK k (f l) d < 2 ^ (70 * B)) :
    ∃ s', S_RisingMaker_next_count [.ob i, .int (n : Int)] s = .ok (.int (beyond (amK k) f 0 n : Nat)) s' ∧ s'[i + 2]? = some (.dT (ways (amK k) f (n + 1))) ∧ Chg s s' (i + 2) 1 ∧ Ext s s' := by
  have hget : ∀ s' : Sto, Ext s s' → s'[i]? = some (insO k [c] i nd) := fun s' x => by
    obtain ⟨o, q, g⟩ := x _ _ h
    rw [q]
    exact congrArg some g
  have key := forD_inv (p := .nm 2) (body := L_RisingMaker_next_count_0) (fun t δ s' => t ≤ n ∧ s'[i + 2]? = some (.dT (waysT (amK k) f n t)) ∧ Chg s s' (i + 2) 1 ∧ Ext s s' ∧ ∃ y2 y3 y4, δ = [some (.ob i), some (.int (n : Int)), y2, y3, y4])
    (rngS ((n : Int) - 1) (-1) n) 0 [some (.ob i), some (.int (n : Int)), none, none, none] s ⟨Nat.zero_le _, by rw [waysT_0]; exact hw, Chg.refl _ _ _, Ext.refl _, none, none, none, rfl⟩ fun t d δ s2 hd hi => by
      rw [Nat.zero_add] at hi ⊢
      obtain ⟨_, hw2, c2, x2, y2, y3, y4, rfl⟩ := hi
      have htm : t < n := by
        have := (List.getElem?_eq_some_iff.mp hd).1
        simpa [rngS] using this
      rw [rngS_get htm] at hd
      obtain ⟨l, hl⟩ : ∃ l, n - 1 - t = l := ⟨_, rfl⟩
      have el : (n : Int) - 1 + (t : Int) * -1 = (l : Int) := by omega
      rw [el] at hd
      cases hd
      have hins := hget s2 x2
      have ck2 := ck.ext x2
      obtain ⟨g, hg⟩ : ∃ g : Nat → Nat, g = fun j => amK k (f l) j * beyond (amK k) f (l + 1) (n - j * (l + 1)) := ⟨_, rfl⟩
      obtain ⟨q, hq⟩ : ∃ q, n / (l + 1) = q := ⟨_, rfl⟩
      have hqn : q ≤ n := by rw [← hq]; exact Nat.div_le_self _ _
      have lc := lcR (i := 4) (δ := [some (.ob i), some (.int (n : Int)), some (.int (l : Int)), some (.int (q : Int)), none]) (s := s2)
        (e := eMeth (mt_block S_RisingMaker_block) "block" (eV 0) (aCons (eV 2) (aCons (eV 1) (aCons (eV 4) aNil)))) g (q + 1) fun j hj => by
          have h1 : j * (l + 1) ≤ n := (Nat.le_div_iff_mul_le (by omega)).mp (by omega)
          have bv := block_val hk hins hw2 (by omega) ck2 hn hB hB1 b1 b2 b3 l n j (by omega) (Nat.le_refl _) h1 (by
            by_cases hz : j = 0
            · subst hz
              exact .inr ⟨by omega, by omega⟩
            · left
              have : 1 * (l + 1) ≤ j * (l + 1) := Nat.mul_le_mul_right _ (by omega)
              omega)
          rw [hg]
          simp only
          generalize amK k (f l) j * beyond (amK k) f (l + 1) (n - j * (l + 1)) = v at bv
          simp (decide := true) [inO_of hins, m_block hk, f_order hk, List.lookup, beqS, bv]
      have su := sumA_map g (List.range (q + 1))
      have ev : beyond (amK k) f l n = ((List.range (q + 1)).map g).sum := by
        rw [beyond_s (amK_0 k) f (by omega), hq, hg]
      rw [← ev] at su
      have hv : valD (waysT (amK k) f n t) (ky l n) = none := by
        rw [waysT_val _ _ _ _ _ _ (by omega), if_neg (by omega)]
      refine ⟨_, v_nm _ _ _, [some (.ob i), some (.int (n : Int)), some (.int (l : Int)), some (.int (q : Int)), y4], s2.set (i + 2) (.dT (waysT (amK k) f n t ++ [(ky l n, .int (beyond (amK k) f l n : Nat))])), ?_, by omega, ?_, c2.trans (Chg.set (by omega) (by omega)), x2.trans (Ext.set hw2 ⟨_, rfl⟩), _, _, _, rfl⟩
      · have hr : rngOk ((q : Int) + 1) := by
          have := rngOk_nat (j := q + 1) (by omega)
          simpa using this
        have ht : ((q : Int) + 1).toNat = q + 1 := by omega
        have hz : q + 1 ≤ sizeLine := sl_le (by omega)
        have h2 : 2 ≤ sizeLine := by decide
        have hdv : divOk ((l : Int) + 1) := divOk_small (by omega) (by omega)
        have e1 : (n : Int) / ((l : Int) + 1) = (q : Int) := by
          rw [← hq]
          push_cast
          rfl
        have hlen : (waysT (amK k) f n t).length < sizeLine := by
          have h1 := ways_len (amK k) f n
          have h3 : n * n ≤ 60 * 60 := Nat.mul_le_mul hn hn
          have h4 : (waysT (amK k) f n t).length ≤ (ways (amK k) f n).length + t := by
            unfold waysT
            rw [List.length_append, List.length_map, List.length_take]
            omega
          exact Nat.lt_of_lt_of_le (show _ < 4000 by omega) (by decide)
        have pk : putKD (waysT (amK k) f n t) [.inl (l : Int), .inl (n : Int)] (.int (beyond (amK k) f l n : Nat)) = waysT (amK k) f n t ++ [(ky l n, .int (beyond (amK k) f l n : Nat))] := putKD_none hv
        generalize beyond (amK k) f l n = tot at su pk
        simp (decide := true) [-v_eMeth, L_RisingMaker_next_count_0, inO_of hins, c_ways hk, f_order hk, List.lookup, beqS, hdv, e1, hr, ht, wipeD, lc, hz, su, h2, keysD, keyD, hw2, hlen, pk]
      · rw [List.getElem?_set_self (List.getElem?_eq_some_iff.mp hw2).1, waysT_s _ _ htm, hl]
  obtain ⟨δ', s', e, _, hw3, c3, x3, y2, y3, y4, rfl⟩ := key
  have hlen : (rngS ((n : Int) - 1) (-1) n).length = n := by simp [rngS]
  rw [Nat.zero_add, hlen] at hw3
  refine ⟨s', ?_, by rw [hw3, waysT_n], c3, x3⟩
  obtain ⟨r1, r2⟩ := row_rng n (by omega)
  have bv := beyond_val hk (hget s' x3) hw3 (Nat.le_refl _) 0 n (.inr ⟨rfl, by omega⟩)
  have em : eMeth (mt_beyond S_RisingMaker_beyond) "beyond" (eV 0) (aCons (eC (.int 0)) (aCons (eV 1) aNil)) [some (.ob i), some (.int (n : Int)), y2, y3, y4] s' = .ok (.int (beyond (amK k) f 0 n : Nat)) s' := by
    have bv' : S_RisingMaker_beyond [.ob i, .int 0, .int (n : Int)] s' = .ok (.int (beyond (amK k) f 0 n : Nat)) s' := bv
    simp (decide := true) [inO_of (hget s' x3), m_beyond hk, f_order hk, List.lookup, beqS, bv']
  apply runG_rt
  simp [-v_eMeth, r1, r2, e, em]
end
end Law

/-! TBh: a maker grows. -/
namespace Law
open PySem L2 Gs MCh Tb
/-- bounds of what is reckoned at a maker -/
structure BndK (B : Nat) (k : Kd) (fs : List (Nat → Nat)) (n : Nat) : Prop where
  b0 : 10 ≤ B
  b1 : B ≤ 1000000
  n1 : n ≤ 60
  parts : ∀ f ∈ fs, ∀ j, j ≤ n → f j < 2 ^ B
  rests : ∀ i j, j ≤ n → rcnt (fs.drop i) j < 2 ^ B
  many : k = .many → ∀ j, j ≤ n → mcnt (hd1 fs) j < 2 ^ B
  ways : inOrd k → ∀ l j, j ≤ n → beyond (amK k) (hd1 fs) l j < 2 ^ B
  am : inOrd k → ∀ l c, c ≤ n → l ≤ n → amK k (hd1 fs l) c < 2 ^ (70 * B)
mutual
def bdS (B : Nat) (N : Str → Nat → Nat) (n : Nat) : Sh → Prop
  | .mk k ps => BndK B k (cntL N ps) n ∧ bdL B N n ps
def bdL (B : Nat) (N : Str → Nat → Nat) (n : Nat) : List Sh → Prop
  | [] => True
  | p :: ps => bdS B N n p ∧ bdL B N n ps
end
def useK (P : Str → Prop) : Kd → Prop
  | .use n => P n
  | .text x => x.length ≤ 100
  | _ => True
mutual
/-- the names that it uses are such, its texts are short -/
def inS (P : Str → Prop) : Sh → Prop
  | .mk k ps => useK P k ∧ inL P ps
def inL (P : Str → Prop) : List Sh → Prop
  | [] => True
  | p :: ps => inS P p ∧ inL P ps
end
theorem f_plain (k : Kd) (i m nd : Nat) (w c : D) (x : Str) (hx : x = "grow" ∨ x = "next_count" ∨ x = "told" ∨ x = "placed") : List.lookup x ((("within" : Str), w) :: (("counts" : Str), c) :: fieldsK k i m nd) = none := by
  rcases hx with rfl | rfl | rfl | rfl <;> cases k <;> simp (decide := true) [List.lookup, beqS, fieldsK]
theorem m_grow (F : List D → Sto → R D) (k : Kd) : mt_grow F (clsK k) = some F := by cases k <;> rfl
noncomputable def nextF : Kd → List D → Sto → R D
  | .whole _ _ => S_WholeMaker_next_count
  | .text _ => S_TextMaker_next_count
  | .row => S_RowMaker_next_count
  | .pick _ => S_PickMaker_next_count
  | .use _ => S_UseMaker_next_count
  | .many => S_ManyMaker_next_count
  | .rising => S_RisingMaker_next_count
  | .unlike => S_RisingMaker_next_count
  | .alike _ => S_AlikeMaker_next_count
theorem m_next (k : Kd) : mt_next_count S_WholeMaker_next_count S_TextMaker_next_count S_RowMaker_next_count S_ManyMaker_next_count S_RisingMaker_next_count S_AlikeMaker_next_count S_PickMaker_next_count S_UseMaker_next_count (clsK k) = some (nextF k) := by cases k <;> rfl
theorem next_val {s : Sto} {i nd n B : Nat} {cs : List Nat} {N : Str → Nat → Nat} {fs : List (Nat → Nat)} {k : Kd} {P : Str → Prop} (ok : okK k fs.length) (hP : useK P k) (h : s[i]? = some (insO k cs i nd)) (hl : cs.length = fs.length) (own : CkAt s i (kcnt N k fs) n) (hx : At s (i + 2) (extraO k fs n)) (ck : ∀ (j c : Nat) (f : Nat → Nat), cs[j]? = some c → fs[j]? = some f → CkAt s c f (n + 1)) (en : Env s nd N P n) (bd : BndK B k fs n) :
    ∃ s', nextF k [.ob i, .int (n : Int)] s = .ok (.int (kcnt N k fs n : Nat)) s' ∧ At s' (i + 2) (extraO k fs (n + 1)) ∧ Chg s s' (i + 2) (xtra k fs.length) ∧ Ext s s' := by
  have one : ∀ {m : Nat}, fs.length = 1 → ∃ c f, cs = [c] ∧ fs = [f] ∧ CkAt s c f (n + 1) := fun {_} e => by
    obtain ⟨f, hf⟩ := List.length_eq_one_iff.mp e
    obtain ⟨c, hc⟩ := List.length_eq_one_iff.mp (hl.trans e)
    exact ⟨c, f, hc, hf, ck 0 c f (by rw [hc]; rfl) (by rw [hf]; rfl)⟩
  cases k with
  | whole lo hi => exact ⟨s, next_whole h bd.n1, hx, Chg.refl _ _ _, Ext.refl _⟩
  | text x => exact ⟨s, next_text h own hP, hx, Chg.refl _ _ _, Ext.refl _⟩
  | row => exact next_row h hl ok ck hx bd.n1 bd.b1 bd.parts bd.rests
  | pick ms => exact ⟨s, next_pick h hl ok.2 ck, hx, Chg.refl _ _ _, Ext.refl _⟩
  | use x =>
    have e : fs = [] := List.eq_nil_of_length_eq_zero ok
    subst e
    exact ⟨s, next_use h en hP, hx, Chg.refl _ _ _, Ext.refl _⟩
  | many =>
    obtain ⟨c, f, rfl, rfl, c1⟩ := one (m := 0) ok
    exact ⟨s, next_many h rfl own c1 bd.n1 bd.b1 (bd.parts f (by simp)) (bd.many rfl), hx, Chg.refl _ _ _, Ext.refl _⟩
  | rising =>
    obtain ⟨c, f, rfl, rfl, c1⟩ := one (m := 0) ok
    obtain ⟨s', e, w, c2, x⟩ := next_order (k := .rising) (f := f) (.inl rfl) h (by have z := hx 0 _ rfl; exact z) c1 bd.n1 bd.b1 bd.b0 (bd.parts f (by simp)) (bd.ways (.inl rfl)) (bd.am (.inl rfl))
    exact ⟨s', e, At.mk w At.nil, c2, x⟩
  | unlike =>
    obtain ⟨c, f, rfl, rfl, c1⟩ := one (m := 0) ok
    obtain ⟨s', e, w, c2, x⟩ := next_order (k := .unlike) (f := f) (.inr rfl) h (by have z := hx 0 _ rfl; exact z) c1 bd.n1 bd.b1 bd.b0 (bd.parts f (by simp)) (bd.ways (.inr rfl)) (bd.am (.inr rfl))
    exact ⟨s', e, At.mk w At.nil, c2, x⟩
  | alike t =>
    obtain ⟨c, f, rfl, rfl, c1⟩ := one (m := 0) ok.1
    exact ⟨s, next_alike h rfl c1 ok.2.1 ok.2.2, hx, Chg.refl _ _ _, Ext.refl _⟩
/-- what stands of a maker -/
theorem lay_own {N : Str → Nat → Nat} {nd : Nat} {s : Sto} {k : Kd} {ps : List Sh} {b n : Nat} (h : At s b (lay N nd (.mk k ps) b n)) : At s b (layL N nd ps b n) ∧ s[b + szL ps]? = some (insO k (rootsL ps b) (b + szL ps) nd) ∧ s[b + szL ps + 1]? = some (.lst (vals (kcnt N k (cntL N ps)) n)) ∧ At s (b + szL ps + 2) (extraO k (cntL N ps) n) := by
  simp only [lay] at h
  obtain ⟨h1, h2⟩ := h.app
  rw [layL_len] at h2
  unfold ownO at h2
  obtain ⟨h3, h4⟩ := h2.cons
  obtain ⟨h5, h6⟩ := h4.cons
  exact ⟨h1, h3, h5, h6⟩
theorem lay_ck {N : Str → Nat → Nat} {nd : Nat} {s : Sto} : ∀ {p : Sh} {b n : Nat}, At s b (lay N nd p b n) → CkAt s (root p b) (cnt N p) n
  | .mk k ps, b, n, h => by
    obtain ⟨_, h2, h3, _⟩ := lay_own h
    exact ⟨⟨k, _, nd, h2⟩, [], by rw [List.append_nil]; exact h3⟩
theorem layL_ck {N : Str → Nat → Nat} {nd : Nat} {s : Sto} : ∀ {ps : List Sh} {b n : Nat}, At s b (layL N nd ps b n) → ∀ (j c : Nat) (f : Nat → Nat), (rootsL ps b)[j]? = some c → (cntL N ps)[j]? = some f → CkAt s c f n
  | [], b, n, h, j, c, f, h1, h2 => by simp [rootsL] at h1
  | p :: ps, b, n, h, j, c, f, h1, h2 => by
    simp only [layL] at h
    obtain ⟨a1, a2⟩ := h.app
    rw [lay_len] at a2
    cases j with
    | zero =>
      simp [rootsL] at h1
      simp [cntL] at h2
      subst h1
      subst h2
      exact lay_ck a1
    | succ j => exact layL_ck a2 j c f (by simpa [rootsL] using h1) (by simpa [cntL] using h2)
theorem layL_root {N : Str → Nat → Nat} {nd : Nat} {s : Sto} {p : Sh} {b n : Nat} (h : At s b (lay N nd p b n)) : ∃ k cs, s[root p b]? = some (insO k cs (root p b) nd) := by
  cases p with
  | mk k ps => exact ⟨k, _, (lay_own h).2.1⟩
/-- it grows -/
def Grows (N : Str → Nat → Nat) (nd d : Nat) (P : Str → Prop) (n : Nat) (p : Sh) : Prop := ∀ (s : Sto) (b : Nat), At s b (lay N nd p b n) → Env s nd N P n →
  ∃ s', S_Maker_grow d [.ob (root p b)] s = .ok .non s' ∧ At s' b (lay N nd p b (n + 1)) ∧ Chg s s' b (sz p) ∧ Ext s s'
theorem grow_loop {N : Str → Nat → Nat} {nd d n : Nat} {P : Str → Prop} {δ0 : Option D} : ∀ (ps : List Sh) (s : Sto) (b : Nat) (y : Option D), (∀ p ∈ ps, Grows N nd d P n p) → At s b (layL N nd ps b n) → Env s nd N P n →
    ∃ s' y', forD (.nm 1) (L_Maker_grow_0 (S_Maker_grow d)) ((rootsL ps b).map .ob) [δ0, y] s = .nx [δ0, y'] s' ∧ At s' b (layL N nd ps b (n + 1)) ∧ Chg s s' b (szL ps) ∧ Ext s s'
  | [], s, b, y, _, h, _ => ⟨s, y, by simp [rootsL, forD], h, Chg.refl _ _ _, Ext.refl _⟩
  | p :: ps, s, b, y, hg, h, en => by
    simp only [layL] at h
    obtain ⟨a1, a2⟩ := h.app
    rw [lay_len] at a2
    obtain ⟨s1, e1, at1, c1, x1⟩ := hg p (by simp) s b a1 en
    have a2' := c1.at a2 (.inr (Nat.le_refl _))
    obtain ⟨s2, y', e2, at2, c2, x2⟩ := grow_loop (δ0 := δ0) ps s1 (b + sz p) (some (.ob (root p b))) (fun q hq => hg q (by simp [hq])) a2' (en.ext x1)
    have at1' := c2.at at1 (.inl (by rw [lay_len]; exact Nat.le_refl _))
    obtain ⟨k, cs, hi⟩ := layL_root a1
    refine ⟨s2, y', ?_, ?_, ?_, x1.trans x2⟩
    · have body : L_Maker_grow_0 (S_Maker_grow d) [δ0, some (.ob (root p b))] s = .nx [δ0, some (.ob (root p b))] s1 := by
        simp (decide := true) [L_Maker_grow_0, inO_of hi, m_grow, f_plain, e1]
      simp only [rootsL, List.map_cons, forD, v_nm, List.set_cons_succ, List.set_cons_zero, body, e2]
    · simp only [layL]
      exact at1'.join (by rw [lay_len]; exact at2)
    · exact (c1.wide (Nat.le_refl _) (by simp only [szL]; omega)).trans (c2.wide (by omega) (by simp only [szL]; omega))
theorem grow_val (N : Str → Nat → Nat) (nd : Nat) (P : Str → Prop) (n B : Nat) : ∀ (d : Nat) (p : Sh), p.ok → p.dep ≤ d → inS P p → bdS B N n p → Grows N nd d P n p
  | 0, .mk k ps, _, h, _, _, _, _, _, _ => by simp only [Sh.dep] at h; omega
  | d + 1, .mk k ps, ok, hd, hP, bd, s, b, h, en => by
    simp only [Sh.ok] at ok
    simp only [inS] at hP
    simp only [bdS] at bd
    simp only [Sh.dep] at hd
    have ih : ∀ p ∈ ps, Grows N nd d P n p := fun p hp => by
      have key : ∀ (qs : List Sh), okL qs → depL qs ≤ d → inL P qs → bdL B N n qs → p ∈ qs → p.ok ∧ p.dep ≤ d ∧ inS P p ∧ bdS B N n p := by
        intro qs
        induction qs with
        | nil => intro _ _ _ _ h; simp at h
        | cons q qs ih =>
          intro h1 h2 h3 h4 h5
          simp only [okL] at h1
          simp only [depL] at h2
          simp only [inL] at h3
          simp only [bdL] at h4
          rcases List.mem_cons.mp h5 with rfl | h5
          · exact ⟨h1.1, by omega, h3.1, h4.1⟩
          · exact ih h1.2 (by omega) h3.2 h4.2 h5
      obtain ⟨q1, q2, q3, q4⟩ := key ps ok.2 (by omega) hP.2 bd.2 hp
      exact grow_val N nd P n B d p q1 q2 q3 q4
    obtain ⟨h1, h2, h3, h4⟩ := lay_own h
    obtain ⟨i, hi⟩ : ∃ i, b + szL ps = i := ⟨_, rfl⟩
    rw [hi] at h2 h3 h4
    obtain ⟨s1, y', e1, at1, c1, x1⟩ := grow_loop (δ0 := some (.ob i)) ps s b none ih h1 en
    have g2 : s1[i]? = some (insO k (rootsL ps b) i nd) := by rw [c1.out i (.inr (by omega))]; exact h2
    have g3 : s1[i + 1]? = some (.lst (vals (kcnt N k (cntL N ps)) n)) := by rw [c1.out (i + 1) (.inr (by omega))]; exact h3
    have g4 := c1.at h4 (.inr (by omega))
    have en1 := en.ext x1
    have own : CkAt s1 i (kcnt N k (cntL N ps)) n := ⟨⟨_, _, _, g2⟩, [], by rw [List.append_nil]; exact g3⟩
    have hl : (rootsL ps b).length = (cntL N ps).length := by rw [rootsL_len, cntL_len]
    obtain ⟨s2, e2, at2, c2, x2⟩ := next_val (N := N) (by rw [cntL_len]; exact ok.1) hP.1 g2 hl own g4 (layL_ck at1) en1 bd.1
    have f2 : s2[i]? = some (insO k (rootsL ps b) i nd) := by rw [c2.out i (.inl (by omega))]; exact g2
    have f3 : s2[i + 1]? = some (.lst (vals (kcnt N k (cntL N ps)) n)) := by rw [c2.out (i + 1) (.inl (by omega))]; exact g3
    have hlen : (vals (kcnt N k (cntL N ps)) n).length < sizeLine := by rw [vals_len]; exact Nat.lt_of_lt_of_le (show n < 1000 by have := bd.1.n1; omega) (by decide)
    have hlen3 : n < sizeLine := by rw [vals_len] at hlen; exact hlen
    have hlen2 : n ≤ sizeLine := sl_le (by have := bd.1.n1; omega)
    obtain ⟨s3, hs3⟩ : ∃ s3, s2.set (i + 1) (.lst (vals (kcnt N k (cntL N ps)) n ++ [.int (kcnt N k (cntL N ps) n : Nat)])) = s3 := ⟨_, rfl⟩
    have c3 : Chg s2 s3 (i + 1) 1 := by rw [← hs3]; exact Chg.set (by omega) (by omega)
    have x3 : Ext s2 s3 := by rw [← hs3]; exact Ext.set f3 ⟨_, rfl⟩
    refine ⟨s3, ?_, ?_, ?_, (x1.trans x2).trans x3⟩
    · rw [root_mk, hi]
      show U_Maker_grow (S_Maker_grow d) [.ob i] s = _
      have r1 : rsv s1 (.ob (i + 1)) = .lst (vals (kcnt N k (cntL N ps)) n) := r_ob g3
      apply runG_nx (δ := [some (.ob i), y'])
      generalize ((kcnt N k (cntL N ps) n : Nat) : Int) = v at e2 hs3
      simp (decide := true) [inO_of h2, cl_within_k, lk_within, e1, inO_of g2, cl_counts_k, lk_counts, lsO_ob g3, r1, hlen2, f_plain, m_next, e2, lsO_ob f3, hlen, hlen3, stO, hs3, vals_len]
    · simp only [lay]
      have a1 := c3.at (c2.at at1 (.inl (by rw [layL_len]; omega))) (.inl (by rw [layL_len]; omega))
      refine a1.join ?_
      rw [layL_len, hi]
      unfold ownO
      refine At.mk (by rw [c3.out i (.inl (by omega))]; exact f2) (At.mk ?_ (c3.at at2 (.inr (by omega))))
      rw [← hs3, List.getElem?_set_self (List.getElem?_eq_some_iff.mp f3).1, vals_s]
    · simp only [sz]
      have hx2 : (cntL N ps).length = ps.length := cntL_len N ps
      exact ((c1.wide (Nat.le_refl _) (by omega)).trans (c2.wide (by omega) (by rw [hx2]; omega))).trans (c3.wide (by omega) (by omega))
end Law

/-! TBj: how great the counts may be. -/
namespace Law
open PySem L2 Gs MCh Tb
mutual
/-- the nodes of a shape -/
def nN : Sh → Nat
  | .mk _ ps => 1 + nL ps
def nL : List Sh → Nat
  | [] => 0
  | p :: ps => nN p + nL ps
end
theorem nN_pos : ∀ p : Sh, 1 ≤ nN p
  | .mk _ ps => by simp only [nN]; omega
theorem p2_le {a b : Nat} (h : a ≤ b) : 2 ^ a ≤ 2 ^ b := Nat.pow_le_pow_right (by decide) h
theorem mul_p2 {x y a b : Nat} (h1 : x ≤ 2 ^ a) (h2 : y ≤ 2 ^ b) : x * y ≤ 2 ^ (a + b) := by
  rw [Nat.pow_add]
  exact Nat.mul_le_mul h1 h2
theorem sum_le {g : Nat → Nat} {n e : Nat} (h : ∀ i, i < n → g i ≤ e) : ((List.range n).map g).sum ≤ n * e := by
  induction n with
  | zero => simp
  | succ n ih =>
    rw [List.range_succ, List.map_append, List.sum_append]
    have h1 := ih fun i hi => h i (by omega)
    have h2 := h n (by omega)
    simp only [List.map_cons, List.map_nil, List.sum_cons, List.sum_nil]
    rw [Nat.add_mul]
    omega
theorem wcnt_le (sp : Int) : ∀ j, wcnt sp j ≤ 2 ^ j
  | 0 => Nat.le_refl _
  | z + 1 => by
    have hp : (0 : Int) < 2 ^ z := Int.pow_pos (by decide)
    have e : ((2 ^ (z + 1) : Nat) : Int) = 2 * 2 ^ z := by rw [Nat.pow_succ]; push_cast; omega
    have : ((wcnt sp (z + 1) : Nat) : Int) ≤ ((2 ^ (z + 1) : Nat) : Int) := by
      show (((max 0 (min sp (2 * 2 ^ z - 1) - 2 ^ z + 1)).toNat : Nat) : Int) ≤ _
      omega
    exact Int.ofNat_le.mp this
theorem ch_le' (n k : Nat) : ch n k ≤ (n + k) ^ k := Nat.le_trans (ch_le n k) (Nat.pow_le_pow_left (by omega) k)
theorem bg_le' (n k : Nat) : bg n k ≤ (n + k) ^ k := by
  unfold bg
  exact Nat.le_trans (ch_le _ k) (Nat.pow_le_pow_left (by omega) k)
theorem amK_le (k : Kd) (n c : Nat) : amK k n c ≤ (n + c) ^ c := by cases k <;> first | exact bg_le' n c | exact ch_le' n c
section
variable {u J : Nat} {N : Str → Nat → Nat}
/-- f is bounded as a shape of so many nodes -/
def Bf (u J m : Nat) (f : Nat → Nat) : Prop := ∀ j, j ≤ J → f j ≤ 2 ^ (14 * m - 7 + 2 * u * j)
theorem mcnt_bd {f : Nat → Nat} {m : Nat} (hm : 1 ≤ m) (hu : 14 * m ≤ u) (hJ : J ≤ 60) (h : Bf u J m f) : ∀ j, j ≤ J → mcnt f j ≤ 2 ^ (2 * u * j) := by
  intro j
  induction j using Nat.strongRecOn with
  | ind j ih =>
    intro hj
    cases j with
    | zero => simp [mcnt_0]
    | succ z =>
      rw [mcnt_s]
      have h1 := sum_le (g := fun i => f i * mcnt f (z - i)) (n := z + 1) (e := 2 ^ (14 * m - 7 + 2 * u * z)) fun i hi => by
        have a := mul_p2 (h i (by omega)) (ih (z - i) (by omega) (by omega))
        have e : 14 * m - 7 + 2 * u * i + 2 * u * (z - i) = 14 * m - 7 + 2 * u * z := by
          have : 2 * u * z = 2 * u * i + 2 * u * (z - i) := by rw [← Nat.mul_add]; congr 1; omega
          omega
        rw [e] at a
        exact a
      have h2 : z + 1 ≤ 2 ^ 7 := by omega
      refine Nat.le_trans h1 (Nat.le_trans (mul_p2 h2 (Nat.le_refl _)) (p2_le ?_))
      have : 2 * u * (z + 1) = 2 * u * z + 2 * u := by rw [Nat.mul_add, Nat.mul_one]
      omega
theorem am_bd {k : Kd} {f : Nat → Nat} {m : Nat} (hm : 1 ≤ m) (hJ : J ≤ 60) (h : Bf u J m f) {l c : Nat} (hl : l ≤ J) (hc : c ≤ 60) : amK k (f l) c ≤ 2 ^ ((14 * m + 2 * u * l) * c) := by
  refine Nat.le_trans (amK_le k (f l) c) ?_
  rw [Nat.pow_mul]
  refine Nat.pow_le_pow_left ?_ c
  have h1 := h l hl
  have h2 : 2 ^ (14 * m - 7 + 2 * u * l) + 2 ^ (14 * m - 7 + 2 * u * l) ≤ 2 ^ (14 * m + 2 * u * l) := by
    have : 2 ^ (14 * m - 7 + 2 * u * l + 1) ≤ 2 ^ (14 * m + 2 * u * l) := p2_le (by omega)
    rw [Nat.pow_succ] at this
    omega
  have h3 : c ≤ 2 ^ (14 * m - 7 + 2 * u * l) := Nat.le_trans (show c ≤ 2 ^ 7 by omega) (p2_le (by omega))
  omega
theorem bey_bd {k : Kd} {f : Nat → Nat} {m : Nat} (hm : 1 ≤ m) (hu : 14 * m ≤ u) (hJ : J ≤ 60) (h : Bf u J m f) : ∀ n l z, z ≤ J → n ≤ 60 → bey (amK k) f n l z ≤ (if z = 0 then 1 else n * 2 ^ (2 * u * z - 8))
  | 0, l, z, hz, hn => by
    by_cases h0 : z = 0
    · simp [bey, h0]
    · simp [bey, h0]
  | n + 1, l, z, hz, hn => by
    by_cases h0 : z = 0
    · subst h0
      rw [bey_0]
      simp
    · by_cases hl : z ≤ l
      · rw [bey_hi (amK_0 k) f (n + 1) l z (by omega) hl]
        exact Nat.zero_le _
      · rw [if_neg h0]
        simp only [bey]
        rw [if_neg h0]
        have hq : z / (l + 1) ≤ 60 := Nat.le_trans (Nat.div_le_self _ _) (by omega)
        rw [List.range_succ_eq_map, List.map_cons, List.sum_cons, List.map_map]
        have t0 := bey_bd (k := k) hm hu hJ h n (l + 1) z hz (by omega)
        rw [if_neg h0] at t0
        have huz : 2 * u ≤ 2 * u * z := by
          have := Nat.mul_le_mul_left (2 * u) (show 1 ≤ z by omega)
          simpa using this
        have ts := sum_le (g := (fun c => amK k (f l) c * bey (amK k) f n (l + 1) (z - c * (l + 1))) ∘ Nat.succ) (n := z / (l + 1)) (e := 2 ^ (2 * u * z - 14)) fun c hc => by
          simp only [Function.comp, Nat.succ_eq_add_one]
          have hcl : (c + 1) * (l + 1) ≤ z := (Nat.le_div_iff_mul_le (by omega)).mp (by omega)
          have a1 := am_bd (k := k) hm hJ h (l := l) (c := c + 1) (by omega) (by omega)
          have a2 : bey (amK k) f n (l + 1) (z - (c + 1) * (l + 1)) ≤ 2 ^ (2 * u * (z - (c + 1) * (l + 1))) := by
            have q := bey_bd (k := k) hm hu hJ h n (l + 1) (z - (c + 1) * (l + 1)) (by omega) (by omega)
            by_cases hz0 : z - (c + 1) * (l + 1) = 0
            · rw [if_pos hz0] at q
              exact Nat.le_trans q Nat.one_le_two_pow
            · rw [if_neg hz0] at q
              have hz1 : 2 * u ≤ 2 * u * (z - (c + 1) * (l + 1)) := by
                have := Nat.mul_le_mul_left (2 * u) (show 1 ≤ z - (c + 1) * (l + 1) by omega)
                simpa using this
              refine Nat.le_trans q (Nat.le_trans (mul_p2 (show n ≤ 2 ^ 6 by omega) (Nat.le_refl _)) (p2_le ?_))
              omega
          refine Nat.le_trans (mul_p2 a1 a2) (p2_le ?_)
          have e1 : (14 * m + 2 * u * l) * (c + 1) + 2 * u * (z - (c + 1) * (l + 1)) + (c + 1) * (2 * u - 14 * m) = 2 * u * z := by
            have q1 : 2 * u * (z - (c + 1) * (l + 1)) = 2 * u * z - 2 * u * ((c + 1) * (l + 1)) := Nat.mul_sub _ _ _
            have q2 : 2 * u * ((c + 1) * (l + 1)) ≤ 2 * u * z := Nat.mul_le_mul_left _ hcl
            have q3 : (14 * m + 2 * u * l) * (c + 1) = 14 * m * (c + 1) + 2 * u * (l * (c + 1)) := by rw [Nat.add_mul, Nat.mul_assoc (2 * u)]
            have q4 : 2 * u * ((c + 1) * (l + 1)) = 2 * u * (l * (c + 1)) + 2 * u * (c + 1) := by rw [← Nat.mul_add]; congr 1; rw [Nat.mul_add, Nat.mul_comm l, Nat.mul_one]
            have q5 : (c + 1) * (2 * u - 14 * m) + 14 * m * (c + 1) = 2 * u * (c + 1) := by
              rw [Nat.mul_comm (14 * m), ← Nat.mul_add, Nat.sub_add_cancel (by omega), Nat.mul_comm]
            omega
          have e2 : 1 * (2 * u - 14 * m) ≤ (c + 1) * (2 * u - 14 * m) := Nat.mul_le_mul_right _ (by omega)
          omega
        have tz : z / (l + 1) * 2 ^ (2 * u * z - 14) ≤ 2 ^ (2 * u * z - 8) := by
          refine Nat.le_trans (mul_p2 (show z / (l + 1) ≤ 2 ^ 6 by omega) (Nat.le_refl _)) (p2_le ?_)
          omega
        have e3 : amK k (f l) 0 * bey (amK k) f n (l + 1) (z - 0 * (l + 1)) = bey (amK k) f n (l + 1) z := by rw [amK_0, Nat.one_mul, Nat.zero_mul, Nat.sub_zero]
        rw [e3, Nat.add_mul, Nat.one_mul]
        omega
theorem beyond_bd {k : Kd} {f : Nat → Nat} {m : Nat} (hm : 1 ≤ m) (hu : 14 * m ≤ u) (hJ : J ≤ 60) (h : Bf u J m f) (l z : Nat) (hz : z ≤ J) : beyond (amK k) f l z ≤ 2 ^ (2 * u * z) := by
  have q := bey_bd (k := k) hm hu hJ h z l z hz (by omega)
  by_cases h0 : z = 0
  · subst h0
    rw [beyond_0]
    exact Nat.one_le_two_pow
  · rw [if_neg h0] at q
    have hz1 : 2 * u ≤ 2 * u * z := by
      have := Nat.mul_le_mul_left (2 * u) (show 1 ≤ z by omega)
      simpa using this
    refine Nat.le_trans q (Nat.le_trans (mul_p2 (show z ≤ 2 ^ 6 by omega) (Nat.le_refl _)) (p2_le ?_))
    omega
theorem row_bd : ∀ (ps : List Sh), (∀ p ∈ ps, Bf u J (nN p) (cnt N p)) → J ≤ 60 → ∀ j, j ≤ J → rcnt (cntL N ps) j ≤ 2 ^ (14 * nL ps + 2 * u * j)
  | [], _, _, j, _ => by
    simp only [cntL, rcnt]
    split
    · exact Nat.one_le_two_pow
    · exact Nat.zero_le _
  | p :: ps, h, hJ, j, hj => by
    simp only [cntL, rcnt]
    have hp := nN_pos p
    have h1 := sum_le (g := fun i => cnt N p i * rcnt (cntL N ps) (j - i)) (n := j + 1) (e := 2 ^ (14 * nN p - 7 + 14 * nL ps + 2 * u * j)) fun i hi => by
      have a := mul_p2 (h p (by simp) i (by omega)) (row_bd ps (fun q hq => h q (by simp [hq])) hJ (j - i) (by omega))
      refine Nat.le_trans a (p2_le ?_)
      have : 2 * u * j = 2 * u * i + 2 * u * (j - i) := by rw [← Nat.mul_add]; congr 1; omega
      omega
    refine Nat.le_trans h1 (Nat.le_trans (mul_p2 (show j + 1 ≤ 2 ^ 7 by omega) (Nat.le_refl _)) (p2_le ?_))
    simp only [nL]
    omega
theorem pick_bd : ∀ (ps : List Sh), (∀ p ∈ ps, Bf u J (nN p) (cnt N p)) → ∀ j, j ≤ J → ((cntL N ps).map fun f => f j).sum ≤ 2 ^ (14 * nL ps + 7 + 2 * u * j)
  | [], _, j, _ => by simp [cntL]
  | p :: ps, h, j, hj => by
    simp only [cntL, List.map_cons, List.sum_cons]
    have hp := nN_pos p
    have h1 := h p (by simp) j hj
    have h2 := pick_bd ps (fun q hq => h q (by simp [hq])) j hj
    have h3 : 2 ^ (14 * nN p - 7 + 2 * u * j) ≤ 2 ^ (14 * nL (p :: ps) + 6 + 2 * u * j) := p2_le (by simp only [nL]; omega)
    have h4 : 2 ^ (14 * nL ps + 7 + 2 * u * j) ≤ 2 ^ (14 * nL (p :: ps) + 6 + 2 * u * j) := p2_le (by simp only [nL]; omega)
    have h5 : 2 ^ (14 * nL (p :: ps) + 7 + 2 * u * j) = 2 * 2 ^ (14 * nL (p :: ps) + 6 + 2 * u * j) := by
      rw [show 14 * nL (p :: ps) + 7 + 2 * u * j = 14 * nL (p :: ps) + 6 + 2 * u * j + 1 by omega, Nat.pow_succ, Nat.mul_comm]
    omega
theorem nL_mem : ∀ {ps : List Sh} {p : Sh}, p ∈ ps → nN p ≤ nL ps
  | [], _, h => by simp at h
  | q :: qs, p, h => by
    simp only [nL]
    rcases List.mem_cons.mp h with rfl | h
    · omega
    · have := nL_mem h
      omega
theorem kcnt_bd {k : Kd} {ps : List Sh} {P : Str → Prop} (ok : okK k ps.length) (hP : useK P k) (hu : 14 * (1 + nL ps) ≤ u) (hJ : J ≤ 60) (hN : ∀ x i, i < J → N x i ≤ 2 ^ (u + 2 * u * i)) (h : ∀ p ∈ ps, Bf u J (nN p) (cnt N p)) : Bf u J (1 + nL ps) (kcnt N k (cntL N ps)) := by
  intro j hj
  have one : ps.length = 1 → ∃ p, ps = [p] ∧ hd1 (cntL N ps) = cnt N p ∧ Bf u J (nN p) (cnt N p) ∧ nN p = nL ps := fun e => by
    obtain ⟨p, rfl⟩ := List.length_eq_one_iff.mp e
    exact ⟨p, rfl, rfl, h p (by simp), by simp [nL]⟩
  have hj2 : j ≤ 2 * u * j := by
    have := Nat.mul_le_mul_right j (show 1 ≤ 2 * u by omega)
    simpa using this
  cases k with
  | whole lo hi => exact Nat.le_trans (wcnt_le _ j) (p2_le (by omega))
  | text x =>
    have h1 : x.length ^ j ≤ (2 ^ 7) ^ j := Nat.pow_le_pow_left (show x.length ≤ 2 ^ 7 from Nat.le_trans hP (by decide)) j
    refine Nat.le_trans h1 ?_
    rw [← Nat.pow_mul]
    refine p2_le ?_
    have := Nat.mul_le_mul_right j (show 7 ≤ 2 * u by omega)
    omega
  | row => exact Nat.le_trans (row_bd ps h hJ j hj) (p2_le (by omega))
  | pick ms => exact Nat.le_trans (pick_bd ps h j hj) (p2_le (by omega))
  | use x =>
    cases j with
    | zero => exact Nat.zero_le _
    | succ j =>
      refine Nat.le_trans (hN x j (by omega)) (p2_le ?_)
      have : 2 * u * (j + 1) = 2 * u * j + 2 * u := by rw [Nat.mul_add, Nat.mul_one]
      omega
  | many =>
    obtain ⟨p, rfl, e, b, en⟩ := one ok
    show mcnt (hd1 (cntL N [p])) j ≤ _
    rw [e]
    exact Nat.le_trans (mcnt_bd (nN_pos p) (by omega) hJ b j hj) (p2_le (by omega))
  | rising =>
    obtain ⟨p, rfl, e, b, en⟩ := one ok
    show beyond (amK .rising) (hd1 (cntL N [p])) 0 j ≤ _
    rw [e]
    exact Nat.le_trans (beyond_bd (nN_pos p) (by omega) hJ b 0 j hj) (p2_le (by omega))
  | unlike =>
    obtain ⟨p, rfl, e, b, en⟩ := one ok
    show beyond (amK .unlike) (hd1 (cntL N [p])) 0 j ≤ _
    rw [e]
    exact Nat.le_trans (beyond_bd (nN_pos p) (by omega) hJ b 0 j hj) (p2_le (by omega))
  | alike t =>
    obtain ⟨p, rfl, e, b, en⟩ := one ok.1
    simp only [kcnt]
    split
    · exact Nat.zero_le _
    · rw [e]
      have h6 : j / t ≤ j := Nat.div_le_self _ _
      have h7 : 2 * u * (j / t - 1) ≤ 2 * u * j := Nat.mul_le_mul_left _ (by omega)
      exact Nat.le_trans (b (j / t - 1) (by omega)) (p2_le (by omega))
mutual
theorem cnt_bd {P : Str → Prop} (hJ : J ≤ 60) (hN : ∀ x i, i < J → N x i ≤ 2 ^ (u + 2 * u * i)) : ∀ p : Sh, p.ok → inS P p → 14 * nN p ≤ u → Bf u J (nN p) (cnt N p)
  | .mk k ps, ok, hP, hu => by
    simp only [Sh.ok] at ok
    simp only [inS] at hP
    simp only [nN] at hu ⊢
    exact kcnt_bd ok.1 hP.1 hu hJ hN fun p hp => cntL_bd hJ hN ps ok.2 hP.2 (by omega) p hp
theorem cntL_bd {P : Str → Prop} (hJ : J ≤ 60) (hN : ∀ x i, i < J → N x i ≤ 2 ^ (u + 2 * u * i)) : ∀ ps : List Sh, okL ps → inL P ps → 14 * nL ps ≤ u → ∀ p ∈ ps, Bf u J (nN p) (cnt N p)
  | [], _, _, _, p, hp => by simp at hp
  | q :: qs, ok, hP, hu, p, hp => by
    simp only [okL] at ok
    simp only [inL] at hP
    simp only [nL] at hu
    rcases List.mem_cons.mp hp with e | hp
    · rw [e]
      exact cnt_bd hJ hN q ok.1 hP.1 (by omega)
    · exact cntL_bd hJ hN qs ok.2 hP.2 (by omega) p hp
end
end
/-- a book whose shapes have so few nodes -/
structure Small (bk : Bk) (p : Sh) (u : Nat) : Prop where
  u0 : 14 ≤ u
  u1 : u ≤ 5000
  bB : ∀ q ∈ bk, 14 * nN q.2 ≤ u
  bp : 14 * nN p ≤ u
theorem NN_none {bk : Bk} {x : Str} (h : bk.lookup x = none) (z : Nat) : NN bk x z = 0 := by
  unfold NN
  simp only [NT, h]
theorem NN_bd {bk : Bk} {u : Nat} {P : Str → Prop} (ok : okB bk) (hP : ∀ q ∈ bk, inS P q.2) (bB : ∀ q ∈ bk, 14 * nN q.2 ≤ u) : ∀ i, i ≤ 60 → ∀ x, NN bk x i ≤ 2 ^ (u + 2 * u * i) := by
  intro i
  induction i using Nat.strongRecOn with
  | ind i ih =>
    intro hi x
    cases e : bk.lookup x with
    | none => rw [NN_none e]; exact Nat.zero_le _
    | some p =>
      have hm := lookup_mem e
      rw [NN_eq e]
      have b := cnt_bd (u := u) (J := i) (N := NN bk) (P := P) hi (fun y k hk => ih k hk (by omega) y) p (ok _ hm) (hP _ hm) (bB _ hm)
      exact Nat.le_trans (b i (Nat.le_refl _)) (p2_le (by have : 14 * nN p ≤ u := bB _ hm; omega))
theorem rcnt_drop {N : Str → Nat → Nat} (ps : List Sh) (i : Nat) : (cntL N ps).drop i = cntL N (ps.drop i) := by
  rw [cntL_map, cntL_map, List.map_drop]
theorem nL_drop : ∀ (ps : List Sh) (i : Nat), nL (ps.drop i) ≤ nL ps
  | [], i => by simp
  | p :: ps, 0 => Nat.le_refl _
  | p :: ps, i + 1 => by
    have := nL_drop ps i
    simp only [List.drop_succ_cons, nL]
    omega
theorem lt_p2 {x a b : Nat} (h : x ≤ 2 ^ a) (h2 : a < b) : x < 2 ^ b := Nat.lt_of_le_of_lt h (Nat.pow_lt_pow_right (by decide) h2)
section
variable {u : Nat} {N : Str → Nat → Nat} {P : Str → Prop}
theorem ux {j n : Nat} (hj : j ≤ n) (hn : n ≤ 60) : 2 * u * j ≤ 120 * u := by
  have := Nat.mul_le_mul_left (2 * u) (show j ≤ 60 by omega)
  omega
theorem bndK_of {k : Kd} {ps : List Sh} {n : Nat} (ok : okK k ps.length) (hu0 : 14 ≤ u) (hu1 : u ≤ 5000) (hu : 14 * nL ps ≤ u) (hn : n ≤ 60) (h : ∀ p ∈ ps, Bf u n (nN p) (cnt N p)) : BndK (200 * u) k (cntL N ps) n := by
  have one : ps.length = 1 → ∃ p, ps = [p] ∧ hd1 (cntL N ps) = cnt N p ∧ Bf u n (nN p) (cnt N p) ∧ nN p = nL ps := fun e => by
    obtain ⟨p, rfl⟩ := List.length_eq_one_iff.mp e
    exact ⟨p, rfl, rfl, h p (by simp), by simp [nL]⟩
  have or1 : inOrd k → ps.length = 1 := fun e => by rcases e with rfl | rfl <;> exact ok
  refine ⟨by omega, by omega, hn, fun f hf j hj => ?_, fun i j hj => ?_, fun e j hj => ?_, fun e l j hj => ?_, fun e l c hc hl => ?_⟩
  · rw [cntL_map] at hf
    obtain ⟨p, hp, rfl⟩ := List.mem_map.mp hf
    have := nL_mem hp
    have := ux (u := u) hj hn
    exact lt_p2 (h p hp j hj) (by omega)
  · rw [rcnt_drop]
    have h1 := row_bd (ps.drop i) (fun p hp => h p (List.mem_of_mem_drop hp)) hn j hj
    have := nL_drop ps i
    have := ux (u := u) hj hn
    exact lt_p2 h1 (by omega)
  · subst e
    obtain ⟨p, rfl, e, b, en⟩ := one ok
    rw [e]
    have := ux (u := u) hj hn
    exact lt_p2 (mcnt_bd (nN_pos p) (by omega) hn b j hj) (by omega)
  · obtain ⟨p, rfl, e2, b, en⟩ := one (or1 e)
    rw [e2]
    have := ux (u := u) hj hn
    exact lt_p2 (beyond_bd (k := k) (nN_pos p) (by omega) hn b l j hj) (by omega)
  · obtain ⟨p, rfl, e2, b, en⟩ := one (or1 e)
    rw [e2]
    have h1 := am_bd (k := k) (nN_pos p) hn b hl (by omega : c ≤ 60)
    have h2 : (14 * nN p + 2 * u * l) * c ≤ (u + 120 * u) * 60 := Nat.mul_le_mul (by have := ux (u := u) hl hn; omega) (by omega)
    exact lt_p2 h1 (by omega)
mutual
theorem bdS_of {n : Nat} (hn : n ≤ 60) (hu0 : 14 ≤ u) (hu1 : u ≤ 5000) (hN : ∀ x i, i < n → N x i ≤ 2 ^ (u + 2 * u * i)) : ∀ p : Sh, p.ok → inS P p → 14 * nN p ≤ u → bdS (200 * u) N n p
  | .mk k ps, ok, hP, hu => by
    simp only [Sh.ok] at ok
    simp only [inS] at hP
    simp only [nN] at hu
    simp only [bdS]
    exact ⟨bndK_of ok.1 hu0 hu1 (by omega) hn (cntL_bd hn hN ps ok.2 hP.2 (by omega)), bdL_of hn hu0 hu1 hN ps ok.2 hP.2 (by omega)⟩
theorem bdL_of {n : Nat} (hn : n ≤ 60) (hu0 : 14 ≤ u) (hu1 : u ≤ 5000) (hN : ∀ x i, i < n → N x i ≤ 2 ^ (u + 2 * u * i)) : ∀ ps : List Sh, okL ps → inL P ps → 14 * nL ps ≤ u → bdL (200 * u) N n ps
  | [], _, _, _ => trivial
  | q :: qs, ok, hP, hu => by
    simp only [okL] at ok
    simp only [inL] at hP
    simp only [nL] at hu
    simp only [bdL]
    exact ⟨bdS_of hn hu0 hu1 hN q ok.1 hP.1 (by omega), bdL_of hn hu0 hu1 hN qs ok.2 hP.2 (by omega)⟩
end
end
end Law

/-! TBi: the tables grow; the counts. -/
namespace Law
open PySem L2 Gs MCh Tb
def tabF (i r : Nat) : List (Str × D) := [("named", .ob (i + 1)), ("top", .ob r)]
theorem tf_named (i r : Nat) : List.lookup ("named" : Str) (tabF i r) = some (.ob (i + 1)) := by simp (decide := true) [tabF, List.lookup, beqS]
theorem tf_top (i r : Nat) : List.lookup ("top" : Str) (tabF i r) = some (.ob r) := by simp (decide := true) [tabF, List.lookup, beqS]
/-- the tables at i, behind so many turns, whether their dict was walked or not -/
structure Tabs (N : Str → Nat → Nat) (bk : Bk) (p : Sh) (s : Sto) (i n : Nat) : Prop where
  ins : s[i]? = some (.ins "Tables" (tabF i (root p (i + 2 + szB bk))))
  dct : s[i + 1]? = some (.dK (kvsB bk (i + 2))) ∨ s[i + 1]? = some (.fK (kvsB bk (i + 2)))
  names : At s (i + 2) (layB N (i + 1) bk (i + 2) n)
  top : At s (i + 2 + szB bk) (lay N (i + 1) p (i + 2 + szB bk) n)
theorem Tabs.more {N : Str → Nat → Nat} {bk : Bk} {p : Sh} {s : Sto} {i n : Nat} (t : Tabs N bk p s i n) (g : List O) : Tabs N bk p (s ++ g) i n := by
  have ap : ∀ {j : Nat} {o : O}, s[j]? = some o → (s ++ g)[j]? = some o := fun {j o} e => by
    have := (List.getElem?_eq_some_iff.mp e).1
    rw [List.getElem?_append_left this]
    exact e
  exact ⟨ap t.ins, t.dct.imp ap ap, t.names.more g, t.top.more g⟩
theorem tabs_at {N : Str → Nat → Nat} {bk : Bk} {p : Sh} (s : Sto) : Tabs N bk p (s ++ tabsO N bk p s.length 0) s.length 0 := by
  have h := At.here s (tabsO N bk p s.length 0)
  unfold tabsO at h
  obtain ⟨h1, h2⟩ := h.cons
  obtain ⟨h3, h4⟩ := h2.cons
  obtain ⟨h5, h6⟩ := h4.app
  rw [layB_len] at h6
  exact ⟨h1, .inl h3, h5, h6⟩
theorem kvsB_val : ∀ {bk : Bk} {b : Nat} {x : Str} {p : Sh}, bk.lookup x = some p → ∃ c, valD (kvsB bk b) (.inr x) = some (.ob (root p c)) ∧ ∀ {N : Str → Nat → Nat} {nd n : Nat} {s : Sto}, At s b (layB N nd bk b n) → At s c (lay N nd p c n)
  | [], _, _, _, h => by simp at h
  | (m, q) :: r, b, x, p, h => by
    simp only [List.lookup_cons] at h
    by_cases e : x = m
    · subst e
      simp at h
      subst h
      refine ⟨b, by simp [kvsB, valD], fun h => ?_⟩
      simp only [layB] at h
      exact h.app.1
    · have e2 : (x == m) = false := by simpa using e
      rw [e2] at h
      obtain ⟨c, h1, h2⟩ := kvsB_val (b := b + sz q) h
      refine ⟨c, ?_, fun h => ?_⟩
      · have e3 : ¬ (Sum.inr m : Key) = .inr x := fun z => e (by injection z with z; exact z.symm)
        unfold valD at h1 ⊢
        simp only [kvsB, List.find?_cons]
        rw [decide_eq_false e3]
        exact h1
      · simp only [layB] at h
        have z := h.app.2
        rw [lay_len] at z
        exact h2 z
/-- the names of a book -/
def Nm (bk : Bk) (x : Str) : Prop := ∃ p, bk.lookup x = some p
theorem tabs_env {bk : Bk} {s : Sto} {nd b n : Nat} (hd : dkO s (.ob nd) = some (kvsB bk b)) (h : At s b (layB (NN bk) nd bk b n)) : Env s nd (NN bk) (Nm bk) n := ⟨_, hd, fun x ⟨p, hp⟩ => by
  obtain ⟨c, h1, h2⟩ := kvsB_val (b := b) hp
  refine ⟨_, h1, ?_⟩
  have z := lay_ck (h2 h)
  have e : cnt (NN bk) p = NN bk x := funext fun z => (NN_eq hp z).symm
  rw [e] at z
  exact z⟩
/-- the trees of the names, one behind another -/
theorem names_loop {N : Str → Nat → Nat} {nd n : Nat} {P : Str → Prop} {δ0 δ1 : Option D} : ∀ (bk : Bk) (s : Sto) (b : Nat) (y : Option D), (∀ q ∈ bk, Grows N nd 20 P n q.2) → At s b (layB N nd bk b n) → Env s nd N P n →
    ∃ s' y', forD (.nm 2) L_Tables_grow_to_1 ((kvsB bk b).map (·.2)) [δ0, δ1, y] s = .nx [δ0, δ1, y'] s' ∧ At s' b (layB N nd bk b (n + 1)) ∧ Chg s s' b (szB bk) ∧ Ext s s'
  | [], s, b, y, _, h, _ => ⟨s, y, by simp [kvsB, forD], h, Chg.refl _ _ _, Ext.refl _⟩
  | (m, p) :: r, s, b, y, hg, h, en => by
    simp only [layB] at h
    obtain ⟨a1, a2⟩ := h.app
    rw [lay_len] at a2
    obtain ⟨s1, e1, at1, c1, x1⟩ := hg (m, p) (by simp) s b a1 en
    have a2' := c1.at a2 (.inr (Nat.le_refl _))
    obtain ⟨s2, y', e2, at2, c2, x2⟩ := names_loop (δ0 := δ0) (δ1 := δ1) r s1 (b + sz p) (some (.ob (root p b))) (fun q hq => hg q (by simp [hq])) a2' (en.ext x1)
    have at1' := c2.at at1 (.inl (by rw [lay_len]; exact Nat.le_refl _))
    obtain ⟨k, cs, hi⟩ := layL_root a1
    refine ⟨s2, y', ?_, ?_, ?_, x1.trans x2⟩
    · have body : L_Tables_grow_to_1 [δ0, δ1, some (.ob (root p b))] s = .nx [δ0, δ1, some (.ob (root p b))] s1 := by
        simp (decide := true) [L_Tables_grow_to_1, inO_of hi, m_grow, f_plain, e1]
      simp only [kvsB, List.map_cons, forD, v_nm, List.set_cons_succ, List.set_cons_zero, body, e2]
    · simp only [layB]
      exact at1'.join (by rw [lay_len]; exact at2)
    · exact (c1.wide (Nat.le_refl _) (by simp only [szB]; omega)).trans (c2.wide (by omega) (by simp only [szB]; omega))
/-- what a book and a shape must be -/
structure Good (bk : Bk) (p : Sh) (B M : Nat) : Prop where
  ok : okB bk
  dep : ∀ q ∈ bk, q.2.dep ≤ 20
  nd : (bk.map (·.1)).Nodup
  len : bk.length ≤ 100
  okp : p.ok
  dp : p.dep ≤ 20
  inB : ∀ q ∈ bk, inS (Nm bk) q.2
  inp : inS (Nm bk) p
  bB : ∀ q ∈ bk, ∀ n, n ≤ M → bdS B (NN bk) n q.2
  bp : ∀ n, n ≤ M → bdS B (NN bk) n p
  m : M ≤ 60
/-- a book and a shape of few nodes -/
structure Fit (bk : Bk) (p : Sh) : Prop where
  ok : okB bk
  dep : ∀ q ∈ bk, q.2.dep ≤ 20
  nd : (bk.map (·.1)).Nodup
  len : bk.length ≤ 100
  okp : p.ok
  dp : p.dep ≤ 20
  inB : ∀ q ∈ bk, inS (Nm bk) q.2
  inp : inS (Nm bk) p
  nB : ∀ q ∈ bk, nN q.2 ≤ 350
  np : nN p ≤ 350
theorem Fit.good {bk : Bk} {p : Sh} (f : Fit bk p) : Good bk p 1000000 60 := by
  have hN : ∀ n, n ≤ 60 → ∀ x i, i < n → NN bk x i ≤ 2 ^ (5000 + 2 * 5000 * i) := fun n hn x i hi => NN_bd f.ok f.inB (fun q hq => by have := f.nB q hq; omega) i (by omega) x
  exact ⟨f.ok, f.dep, f.nd, f.len, f.okp, f.dp, f.inB, f.inp, fun q hq n hn => bdS_of (u := 5000) hn (by decide) (by decide) (hN n hn) q.2 (f.ok q hq) (f.inB q hq) (by have := f.nB q hq; omega),
    fun n hn => bdS_of (u := 5000) hn (by decide) (by decide) (hN n hn) p f.okp f.inp (by have := f.np; omega), Nat.le_refl _⟩
abbrev tc (bk : Bk) (p : Sh) : Nat → Nat := cnt (NN bk) p
theorem tabs_turn {bk : Bk} {p : Sh} {B M n i : Nat} {s : Sto} {δ1 y : Option D} (g : Good bk p B M) (hn : n ≤ M) (t : Tabs (NN bk) bk p s i n) :
    ∃ s' y', L_Tables_grow_to_0 [some (.ob i), δ1, y] s = .nx [some (.ob i), δ1, y'] s' ∧ Tabs (NN bk) bk p s' i (n + 1) ∧ s'.length = s.length ∧ ∀ j, (j < i ∨ i + 2 + szB bk + sz p ≤ j) → s'[j]? = s[j]? := by
  have hi : i + 1 < s.length := by rcases t.dct with h | h <;> exact (List.getElem?_eq_some_iff.mp h).1
  obtain ⟨s0, e0, c0, x0, d0⟩ : ∃ s0, iDVals (eAt cl_named "named" (eV 0)) [some (.ob i), δ1, y] s = .ok ((kvsB bk (i + 2)).map (·.2)) s0 ∧ Chg s s0 (i + 1) 1 ∧ Ext s s0 ∧ s0[i + 1]? = some (.fK (kvsB bk (i + 2))) := by
    have hin : inO s (.ob i) = some ("Tables", tabF i (root p (i + 2 + szB bk))) := by unfold inO; simp [t.ins]
    rcases t.dct with h | h
    · refine ⟨s.set (i + 1) (.fK (kvsB bk (i + 2))), ?_, Chg.set (Nat.le_refl _) (by omega), Ext.set h (.inr rfl), by rw [List.getElem?_set_self hi]⟩
      simp (decide := true) [hin, tf_named, tf_top, h]
    · refine ⟨s, ?_, Chg.refl _ _ _, Ext.refl _, h⟩
      simp (decide := true) [hin, tf_named, tf_top, h]
  have t0 : Tabs (NN bk) bk p s0 i n := ⟨by rw [c0.out i (.inl (by omega))]; exact t.ins, .inr d0, c0.at t.names (.inr (by omega)), c0.at t.top (.inr (by omega))⟩
  have hdk : dkO s0 (.ob (i + 1)) = some (kvsB bk (i + 2)) := by unfold dkO; simp [d0]
  have en0 := tabs_env hdk t0.names
  obtain ⟨s1, y', e1, at1, c1, x1⟩ := names_loop (δ0 := some (.ob i)) (δ1 := δ1) bk s0 (i + 2) y (fun q hq => grow_val _ _ _ _ B 20 q.2 (g.ok q hq) (g.dep q hq) (g.inB q hq) (g.bB q hq n hn)) t0.names en0
  have top1 := c1.at t0.top (.inr (Nat.le_refl _))
  obtain ⟨s2, e2, at2, c2, x2⟩ := grow_val (NN bk) (i + 1) (Nm bk) n B 20 p g.okp g.dp g.inp (g.bp n hn) s1 (i + 2 + szB bk) top1 (en0.ext x1)
  have at1' := c2.at at1 (.inl (by rw [layB_len]; omega))
  have i1 : s1[i]? = some (.ins "Tables" (tabF i (root p (i + 2 + szB bk)))) := by rw [c1.out i (.inl (by omega))]; exact t0.ins
  have i2 : s2[i]? = some (.ins "Tables" (tabF i (root p (i + 2 + szB bk)))) := by rw [c2.out i (.inl (by omega))]; exact i1
  have d2 : s2[i + 1]? = some (.fK (kvsB bk (i + 2))) := by rw [c2.out (i + 1) (.inl (by omega)), c1.out (i + 1) (.inl (by omega))]; exact d0
  refine ⟨s2, y', ?_, ⟨i2, .inr d2, at1', at2⟩, by rw [c2.len, c1.len, c0.len], fun j hj => by rw [c2.out j (by omega), c1.out j (by omega), c0.out j (by omega)]⟩
  have hin : inO s1 (.ob i) = some ("Tables", tabF i (root p (i + 2 + szB bk))) := by unfold inO; simp [i1]
  obtain ⟨k, cs, hr⟩ := layL_root top1
  simp (decide := true) only [L_Tables_grow_to_0, v_sSeq, v_sFor, e0, v_sBind_ok, e1]
  simp (decide := true) [hin, tf_named, tf_top, inO_of hr, m_grow, f_plain, e2]
theorem top_ck {bk : Bk} {p : Sh} {s : Sto} {i n : Nat} (t : Tabs (NN bk) bk p s i n) : CkAt s (root p (i + 2 + szB bk)) (tc bk p) n := lay_ck t.top
/-- the tables grow to a size -/
theorem grow_to_val {bk : Bk} {p : Sh} {B M i z : Nat} {s : Sto} (g : Good bk p B M) (hz : z ≤ M) (t : Tabs (NN bk) bk p s i 0) :
    ∃ s', S_Tables_grow_to [.ob i, .int (z : Int)] s = .ok .non s' ∧ Tabs (NN bk) bk p s' i (z + 1) ∧ s'.length = s.length ∧ ∀ j, (j < i ∨ i + 2 + szB bk + sz p ≤ j) → s'[j]? = s[j]? := by
  have ex : ∀ {n : Nat} {s : Sto} {y : Option D}, n ≤ M + 1 → Tabs (NN bk) bk p s i n → T_Tables_grow_to_0 [some (.ob i), some (.int (z : Int)), y] s = .ok (decide (n ≤ z)) s := fun {n s y} hn t => by
    have hin : inO s (.ob i) = some ("Tables", tabF i (root p (i + 2 + szB bk))) := by unfold inO; simp [t.ins]
    have hm := g.m
    cases p with
    | mk k ps =>
      obtain ⟨_, h2, h3, _⟩ := lay_own t.top
      rw [root_mk] at hin
      have r3 := r_ob h3
      have hl : n ≤ sizeLine := sl_le (by omega)
      simp (decide := true) [T_Tables_grow_to_0, hin, tf_top, inO_of h2, cl_counts_k, lk_counts, r3, vals_len, hl]
  have hm := g.m
  have key := whileK (c := T_Tables_grow_to_0) (body := L_Tables_grow_to_0) (fun k δ s' => k ≤ z + 1 ∧ Tabs (NN bk) bk p s' i (z + 1 - k) ∧ s'.length = s.length ∧ (∀ j, (j < i ∨ i + 2 + szB bk + sz p ≤ j) → s'[j]? = s[j]?) ∧ ∃ y, δ = [some (.ob i), some (.int (z : Int)), y]) (fun k δ s' hi => by
    obtain ⟨hk, t1, l1, o1, y, rfl⟩ := hi
    have e := ex (y := y) (by omega) t1
    by_cases h0 : k = 0
    · subst h0
      left
      rw [e, decide_eq_false (by omega)]
    · right
      refine ⟨by rw [e, decide_eq_true (by omega)], ?_⟩
      obtain ⟨s2, y', e2, t2, l2, o2⟩ := tabs_turn (δ1 := some (.int (z : Int))) (y := y) g (by omega) t1
      refine ⟨_, s2, e2, k - 1, by omega, by omega, by rw [show z + 1 - (k - 1) = z + 1 - k + 1 by omega]; exact t2, l2.trans l1, fun j hj => (o2 j hj).trans (o1 j hj), y', rfl⟩) fuel (z + 1) [some (.ob i), some (.int (z : Int)), none] s ⟨Nat.le_refl _, by rw [Nat.sub_self]; exact t, rfl, fun _ _ => rfl, none, rfl⟩ (by unfold fuel; omega)
  obtain ⟨δ', s', k', e, ⟨hk, t1, l1, o1, y, rfl⟩, e3⟩ := key
  have e4 := ex (y := y) (by omega) t1
  rw [e3] at e4
  have h0 : k' = 0 := by
    have q : decide (z + 1 - k' ≤ z) = false := by injection e4 with q _; exact q.symm
    have := of_decide_eq_false q
    omega
  subst h0
  refine ⟨s', ?_, t1, l1, o1⟩
  apply runG_nx
  simp only [List.map_cons, List.map_nil, List.length_cons, List.length_nil]
  exact e
/-- tables made and grown, behind s -/
theorem grown {bk : Bk} {p : Sh} {B M z : Nat} (g : Good bk p B M) (hz : z ≤ M) (s : Sto) :
    ∃ G, S_Tables___init__ [.ob s.length, bookD bk, p.d] (s ++ [.ins "Tables" []]) = .ok .non (s ++ tabsO (NN bk) bk p s.length 0) ∧ S_Tables_grow_to [.ob s.length, .int (z : Int)] (s ++ tabsO (NN bk) bk p s.length 0) = .ok .non (s ++ G) ∧ Tabs (NN bk) bk p (s ++ G) s.length (z + 1) := by
  obtain ⟨s', e, t, l, o⟩ := grow_to_val g hz (tabs_at (N := NN bk) (bk := bk) (p := p) s)
  have h : s' = s ++ s'.drop s.length := by
    apply List.ext_getElem?
    intro j
    by_cases hj : j < s.length
    · rw [o j (.inl hj), List.getElem?_append_left hj, List.getElem?_append_left hj]
    · rw [List.getElem?_append_right (by omega), List.getElem?_drop]
      congr 1
      omega
  refine ⟨s'.drop s.length, tabs_init g.ok g.dep g.nd g.len g.okp g.dp s, by rw [← h]; exact e, by rw [← h]; exact t⟩
theorem tab_in {bk : Bk} {p : Sh} {s : Sto} {i n : Nat} (t : Tabs (NN bk) bk p s i n) : inO s (.ob i) = some ("Tables", tabF i (root p (i + 2 + szB bk))) := by unfold inO; simp [t.ins]
theorem counts_at_val {bk : Bk} {p : Sh} {s : Sto} {i n z : Nat} (t : Tabs (NN bk) bk p s i n) (hz : z < n) : S_Tables_counts_at [.ob i, .int (z : Int)] s = .ok (.int (tc bk p z : Nat)) s := by
  apply runG_rt
  obtain ⟨k, cs, nd, hi⟩ := (top_ck t).ins
  obtain ⟨L, hL⟩ := (top_ck t).rsv
  have a1 : atI (vals (tc bk p) n ++ L) (z : Int) = some (.int (tc bk p z : Nat)) := at_app hz
  simp (decide := true) [tab_in t, tf_top, inO_of hi, cl_counts_k, lk_counts, hL, a1]
theorem tf_plain (i r : Nat) (x : Str) (hx : x = "grow_to" ∨ x = "counts_at" ∨ x = "told" ∨ x = "placed") : List.lookup x (tabF i r) = none := by
  rcases hx with rfl | rfl | rfl | rfl <;> simp (decide := true) [tabF, List.lookup, beqS]
end Law

/-! GTx: texts as lists of signs. -/
namespace Law
open PySem L2 Gs
/-- the text of these signs -/
def St (l : List Nat) : Str := ⟨l.toArray⟩
@[simp] theorem St_tl (l : List Nat) : (St l).cps.toList = l := id rfl
theorem tl_St (x : Str) : St x.cps.toList = x := TL.mk_tl x
theorem St_eq {a b : List Nat} : (St a = St b) = (a = b) := by
  refine propext ⟨fun h => ?_, fun h => by rw [h]⟩
  have := congrArg (fun x : Str => x.cps.toList) h
  simpa using this
@[simp] theorem St_len (l : List Nat) : (St l).length = l.length := by simp [St, Str.length]
@[simp] theorem St_cat (a b : List Nat) : St a ++ St b = St (a ++ b) := TL.ext_tl (TL.tl_append (St a) (St b))
theorem of_St {x : Str} {l : List Nat} (h : x.cps.toList = l) : x = St l := by rw [← h, tl_St]
@[simp] theorem c_nil : Str.ofString "" = St [] := of_St (by decide +kernel)
@[simp] theorem c_opn : Str.ofString "(" = St [40] := of_St (by decide +kernel)
@[simp] theorem c_cls : Str.ofString ")" = St [41] := of_St (by decide +kernel)
@[simp] theorem c_com : Str.ofString "," = St [44] := of_St (by decide +kernel)
@[simp] theorem c_col : Str.ofString ":" = St [58] := of_St (by decide +kernel)
@[simp] theorem c_stop : Str.ofString "()," = St [40, 41, 44] := of_St (by decide +kernel)
def lets : List Nat := (List.range 26).map (97 + ·)
def grts : List Nat := (List.range 26).map (65 + ·)
def figs : List Nat := (List.range 10).map (48 + ·)
@[simp] theorem c_lets : Str.ofString "abcdefghijklmnopqrstuvwxyz" = St lets := of_St (by decide +kernel)
@[simp] theorem c_grts : Str.ofString "ABCDEFGHIJKLMNOPQRSTUVWXYZ" = St grts := of_St (by decide +kernel)
@[simp] theorem c_figs : Str.ofString "0123456789" = St figs := of_St (by decide +kernel)
@[simp] theorem c_dash : Str.ofString "-" = St [45] := of_St (by decide +kernel)
def wsig : List Nat := lets ++ grts ++ figs ++ [45]
@[simp] theorem sg_St (l : List Nat) : signs (St l) = l.map fun c => .str (St [c]) := id rfl
@[simp] theorem v_inS (c : Nat) (l : List Nat) : gIn (.str (St [c])) (.str (St l)) = some (.bl (decide (c ∈ l))) := id rfl
@[simp] theorem v_ninS (c : Nat) (l : List Nat) : gNin (.str (St [c])) (.str (St l)) = some (.bl (!decide (c ∈ l))) := id rfl
@[simp] theorem v_addS (a b : List Nat) : gAdd (.str (St a)) (.str (St b)) = if a.length + b.length ≤ sizeLine then some (.str (St (a ++ b))) else none := by
  simp only [gAdd, St_len, St_cat]
@[simp] theorem v_lenSt (a : List Nat) : gLen [.str (St a)] = if a.length ≤ sizeLine then some (.int a.length) else none := by simp
@[simp] theorem v_slS (a : List Nat) (lo hi : Option Int) : gSl (.str (St a)) lo hi = if a.length ≤ sizeLine then some (.str (St (cutL a lo hi))) else none := by
  have e : cutS (St a) lo hi = St (cutL a lo hi) := of_St (by simp [cutS, cutL])
  simp only [gSl, St_len, e]
theorem v_ixS (a : List Nat) (i : Int) : gIx (.str (St a)) (.int i) = if a.length ≤ sizeLine then (atI a i).map fun c => .str (St [c]) else none := by
  simp only [gIx, St_len, St_tl]
  rfl
theorem lc_signs (l : List Nat) (k : Nat) (e : E) (δ : Sl) (s : Sto) (f : Nat → Bool) (he : ∀ c, e (δ.set k (some (.str (St [c])))) s = .ok (.bl (f c)) s) : lcD (.nm k) tTrue e δ (l.map fun c => .str (St [c])) s = .ok (l.map fun c => D.bl (f c)) s := by
  induction l with
  | nil => rfl
  | cons c l ih => simp [lcD, he, ih]
theorem gAll_map {α : Type} (l : List α) (f : α → Bool) : gAll [.lst (l.map fun c => D.bl (f c))] = some (.bl (l.all f)) := by
  have e : l.map (fun c => D.bl (f c)) = (l.map f).map D.bl := by simp
  have e2 : ∀ l : List α, (l.map f).all (fun b => b) = l.all f := fun l => by
    induction l with
    | nil => rfl
    | cons c l ih => simp [ih]
  rw [e]
  simp only [gAll, blsOf_map, Option.map_some, e2]
theorem at_St {T : List Nat} {j c : Nat} (hl : T.length ≤ sizeLine) (h : T[j]? = some c) : gIx (.str (St T)) (.int (j : Int)) = some (.str (St [c])) := by
  obtain ⟨h1, h2⟩ := List.getElem?_eq_some_iff.mp h
  rw [v_ixS, if_pos hl, atI_ofNat T h1, h2]
  rfl
/-! with the length shown small; simp (disch := (simp only [List.length_append, List.length_cons, List.length_nil, St_len]; omega)) -/
theorem d_addS (a b : List Nat) (h : a.length + b.length ≤ 100000) : gAdd (.str (St a)) (.str (St b)) = some (.str (St (a ++ b))) := by
  rw [v_addS, if_pos (small_line (by omega))]
theorem d_lenS (a : List Nat) (h : a.length ≤ 100000) : gLen [.str (St a)] = some (.int a.length) := by
  rw [v_lenSt, if_pos (small_line (by omega))]
theorem d_slS (a : List Nat) (lo hi : Option Int) (h : a.length ≤ 100000) : gSl (.str (St a)) lo hi = some (.str (St (cutL a lo hi))) := by
  rw [v_slS, if_pos (small_line (by omega))]
end Law

/-! TDa: fair numbers, and what a whole or a text shape tells of a number. -/
namespace Law
open PySem L2 Gs MCh Tb
theorem sq_nx {f g : S} {δ δ' : Sl} {s s' : Sto} {r : RS} (h : f δ s = .nx δ' s') (h2 : g δ' s' = r) : sSeq f g δ s = r := by simp only [v_sSeq, h, h2]
def nI (xs : List Nat) : List D := xs.map fun (c : Nat) => .int (c : Int)
theorem nI_len (xs : List Nat) : (nI xs).length = xs.length := by simp [nI]
/-- the first number under the limit: how many were looked at, and it -/
def fst1 (lim : Nat) : List Nat → Option (Nat × Nat)
  | [] => none
  | n :: ns => if n < lim then some (1, n) else (fst1 lim ns).map fun p => (p.1 + 1, p.2)
theorem fair_loop (lim count : Nat) (hc : 0 < count) (hc2 : count < 2 ^ 8000) (s : Sto) (x0 x1 x3 : Option D) : ∀ (ns : List Nat) (m : Nat) (x6 : Option D),
    (∀ k v, fst1 lim ns = some (k, v) → forD (.nm 6) L_fair_0 (nI ns) [x0, x1, some (.int (count : Int)), x3, some (.int (lim : Int)), some (.int (m : Int)), x6] s = .rt (.tup [.int ((m + k : Nat) : Int), .int ((v % count : Nat) : Int)]) s) ∧
    (fst1 lim ns = none → ∃ y5 y6, forD (.nm 6) L_fair_0 (nI ns) [x0, x1, some (.int (count : Int)), x3, some (.int (lim : Int)), some (.int (m : Int)), x6] s = .nx [x0, x1, some (.int (count : Int)), x3, some (.int (lim : Int)), y5, y6] s)
  | [], m, x6 => ⟨fun k v h => by simp [fst1] at h, fun _ => ⟨_, _, rfl⟩⟩
  | n :: ns, m, x6 => by
    obtain ⟨ih1, ih2⟩ := fair_loop lim count hc hc2 s x0 x1 x3 ns (m + 1) (some (.int (n : Int)))
    have d : divOk (count : Int) := divOk_of (a := 8000) (by omega) (by rw [Int.natAbs_natCast]; exact hc2) (by decide)
    have hcp : (0 : Int) < (count : Int) := by omega
    have em : ((m : Int) + 1) = ((m + 1 : Nat) : Int) := by push_cast; rfl
    by_cases h : n < lim
    · refine ⟨fun k v e => ?_, fun e => by simp [fst1, h] at e⟩
      simp only [fst1, h, if_true, Option.some.injEq, Prod.mk.injEq] at e
      obtain ⟨rfl, rfl⟩ := e
      have hi : (n : Int) < (lim : Int) := by omega
      have em2 : (n : Int) % (count : Int) = ((n % count : Nat) : Int) := by push_cast; rfl
      have b : L_fair_0 [x0, x1, some (.int (count : Int)), x3, some (.int (lim : Int)), some (.int (m : Int)), some (.int (n : Int))] s = .rt (.tup [.int ((m + 1 : Nat) : Int), .int ((n % count : Nat) : Int)]) s := by
        rw [← em]
        rw [← em2]
        simp [L_fair_0, hc, h, hcp]
      show forD (.nm 6) L_fair_0 (.int (n : Int) :: nI ns) _ s = _
      simp only [forD, v_nm, List.set_cons_succ, List.set_cons_zero, b]
    · have hi : ¬ (n : Int) < (lim : Int) := by omega
      have b : L_fair_0 [x0, x1, some (.int (count : Int)), x3, some (.int (lim : Int)), some (.int (m : Int)), some (.int (n : Int))] s = .nx [x0, x1, some (.int (count : Int)), x3, some (.int (lim : Int)), some (.int ((m + 1 : Nat) : Int)), some (.int (n : Int))] s := by
        rw [← em]
        simp [L_fair_0, h]
      have st : ∀ r, forD (.nm 6) L_fair_0 (nI ns) [x0, x1, some (.int (count : Int)), x3, some (.int (lim : Int)), some (.int ((m + 1 : Nat) : Int)), some (.int (n : Int))] s = r → forD (.nm 6) L_fair_0 (nI (n :: ns)) [x0, x1, some (.int (count : Int)), x3, some (.int (lim : Int)), some (.int (m : Int)), x6] s = r := fun r e => by
        show forD (.nm 6) L_fair_0 (.int (n : Int) :: nI ns) _ s = _
        simp only [forD, v_nm, List.set_cons_succ, List.set_cons_zero, b, e]
      refine ⟨fun k v e => ?_, fun e => ?_⟩
      · simp only [fst1, h, if_false, Option.map_eq_some_iff] at e
        obtain ⟨p, e1, e2⟩ := e
        injection e2 with e2 e3
        subst e2
        subst e3
        have := st _ (ih1 p.1 p.2 e1)
        rw [this]
        congr 4
        congr 1
        omega
      · simp only [fst1, h, if_false, Option.map_eq_none_iff] at e
        obtain ⟨y5, y6, q⟩ := ih2 e
        exact ⟨y5, y6, st _ q⟩
theorem fair_val (base count : Nat) (hc : 0 < count) (hc2 : count < 2 ^ 8000) (ns : List Nat) (s : Sto) :
    (∀ k v, fst1 (base - base % count) ns = some (k, v) → S_fair [.lst (nI ns), .int (base : Int), .int (count : Int)] s = .ok (.tup [.int (k : Int), .int ((v % count : Nat) : Int)]) s) ∧
    (fst1 (base - base % count) ns = none → S_fair [.lst (nI ns), .int (base : Int), .int (count : Int)] s = .exc ⟨"NoDraw", []⟩ s) := by
  obtain ⟨h1, h2⟩ := fair_loop (base - base % count) count hc hc2 s (some (.lst (nI ns))) (some (.int (base : Int))) (some (.int ((base % count : Nat) : Int))) ns 0 none
  have d : divOk (count : Int) := divOk_of (a := 8000) (by omega) (by rw [Int.natAbs_natCast]; exact hc2) (by decide)
  have hcp : ¬ (count : Int) ≤ 0 := by omega
  have hl : base % count ≤ base := Nat.mod_le _ _
  have e1 : (base : Int) % (count : Int) = ((base % count : Nat) : Int) := by push_cast; rfl
  have e2 : (base : Int) - ((base % count : Nat) : Int) = ((base - base % count : Nat) : Int) := by rw [Int.ofNat_sub hl]
  have np : Builtin.divisionGoesByPylong (base : Int) (count : Int) = false := PyProof.noPylong_of_log2 (Nat.lt_of_lt_of_le (log_lt (a := 8000) (by rw [Int.natAbs_natCast]; exact hc2) (by decide)) (by decide))
  have dm : gDivmod [.int (base : Int), .int (count : Int)] = some (.tup [.int ((base : Int) / (count : Int)), .int ((base : Int) % (count : Int))]) := by
    show (if _ then _ else _) = _
    rw [if_pos ⟨by omega, np⟩]
  rw [e1] at dm
  have a1 : ∀ x y : D, atI [x, y] 1 = some y := fun x y => atI_ofNat _ (j := 1) (by simp)
  generalize base - base % count = lim at h1 h2 e2 ⊢
  generalize ((base % count : Nat) : Int) = q at h1 h2 e2 dm
  have step : ∀ (f : S) (r : RS), f [some (.lst (nI ns)), some (.int (base : Int)), some (.int (count : Int)), some (.int q), some (.int (lim : Int)), some (.int 0), none] s = r →
      sSeq (sIf (tV (eBin gLe (eV 2) (eC (.int 0)))) (sRaise "NoDraw") (sNx)) (sSeq (sSet 3 (eBin gIx (eFn gDivmod (aCons (eV 1) (aCons (eV 2) (aNil)))) (eC (.int 1)))) (sSeq (sSet 4 (eBin gSub (eV 1) (eV 3))) (sSeq (sSet 5 (eC (.int 0))) f)))
        [some (.lst (nI ns)), some (.int (base : Int)), some (.int (count : Int)), none, none, none, none] s = r := fun f r h => by
    refine sq_nx (δ' := [some (.lst (nI ns)), some (.int (base : Int)), some (.int (count : Int)), none, none, none, none]) (s' := s) (by simp [hcp]; omega) ?_
    refine sq_nx (δ' := [some (.lst (nI ns)), some (.int (base : Int)), some (.int (count : Int)), some (.int q), none, none, none]) (s' := s) (by simp [dm, a1]) ?_
    refine sq_nx (δ' := [some (.lst (nI ns)), some (.int (base : Int)), some (.int (count : Int)), some (.int q), some (.int (lim : Int)), none, none]) (s' := s) (by simp [e2]) ?_
    refine sq_nx (δ' := [some (.lst (nI ns)), some (.int (base : Int)), some (.int (count : Int)), some (.int q), some (.int (lim : Int)), some (.int 0), none]) (s' := s) (by simp) ?_
    exact h
  refine ⟨fun k v e => ?_, fun e => ?_⟩
  · have b := h1 k v e
    rw [Nat.zero_add] at b
    apply runG_rt
    refine step _ _ ?_
    have b' : forD (.nm 6) L_fair_0 (nI ns) [some (.lst (nI ns)), some (.int (base : Int)), some (.int (count : Int)), some (.int q), some (.int (lim : Int)), some (.int 0), none] s = _ := b
    generalize ((v % count : Nat) : Int) = w at b' ⊢
    simp [b']
  · obtain ⟨y5, y6, b⟩ := h2 e
    have b' : forD (.nm 6) L_fair_0 (nI ns) [some (.lst (nI ns)), some (.int (base : Int)), some (.int (count : Int)), some (.int q), some (.int (lim : Int)), some (.int 0), none] s = _ := b
    refine runG_exc (δ := [some (.lst (nI ns)), some (.int (base : Int)), some (.int (count : Int)), some (.int q), some (.int (lim : Int)), y5, y6]) ?_
    refine step _ _ ?_
    simp [b']
end Law

/-! TDb: what a whole or a text shape tells. -/
namespace Law
open PySem L2 Gs MCh Tb
def tt (l : List Nat) (n : Nat) : Nat → List Nat
  | 0 => []
  | z + 1 => l.getD (n / l.length ^ z % l.length) 0 :: tt l n z
theorem tt_len (l : List Nat) (n : Nat) : ∀ z, (tt l n z).length = z
  | 0 => rfl
  | z + 1 => by simp [tt, tt_len l n z]
/-- what the tables tell of a number of a size -/
def tv : Kd → Nat → Nat → D
  | .whole lo _, 0, _ => .int lo
  | .whole lo _, z + 1, n => .int (lo + 2 ^ z + n)
  | .text x, z, n => .str (St (tt x.cps.toList n z))
  | _, _, _ => .non
def simpleK (k : Kd) : Prop := (∃ lo hi, k = .whole lo hi) ∨ ∃ l : List Nat, k = .text (St l) ∧ 0 < l.length ∧ l.length ≤ 62
theorem shl1 (z : Nat) (hz : z ≤ 1000) : gShl (.int 1) (.int (z : Int)) = some (.int ((2 : Int) ^ z)) := shl_1 (by omega)
theorem text_told_loop (l : List Nat) (h0 : 0 < l.length) (hl : l.length ≤ 62) (n z : Nat) (hz : z ≤ 60) {S : Sto} {r : Nat} {fs : List (Str × D)} (hi : inO S (.ob r) = some ("TextMaker", fs)) (hs : List.lookup (Str.ofString "signs") fs = some (D.str (St l))) :
    ∃ y4 y5, forD (.nm 4) L_TextMaker_told_0 (rngD 0 z) [some (.ob r), some (.int (z : Int)), some (.int (n : Int)), some (.str (St [])), none, none] S = .nx [some (.ob r), some (.int (z : Int)), some (.int ((n / l.length ^ z : Nat) : Int)), some (.str (St (tt l n z))), y4, y5] S := by
  have q := forR (p := .nm 4) (body := L_TextMaker_told_0) (lo := 0) (n := z) (δ := [some (.ob r), some (.int (z : Int)), some (.int (n : Int)), some (.str (St [])), none, none]) (s := S)
    (fun k δ s' => s' = S ∧ ∃ y4 y5, δ = [some (.ob r), some (.int (z : Int)), some (.int ((n / l.length ^ k : Nat) : Int)), some (.str (St (tt l n k))), y4, y5]) ⟨rfl, none, none, by simp [tt]⟩
    (fun k δ s' hk => by
      rintro ⟨rfl, y4, y5, rfl⟩
      obtain ⟨L, hL⟩ : ∃ L, l.length = L := ⟨_, rfl⟩
      rw [hL] at h0 hl
      have np : Builtin.divisionGoesByPylong ((n / L ^ k : Nat) : Int) (L : Int) = false := PyProof.noPylong_of_log2 (Nat.lt_of_lt_of_le (log_lt (a := 8000) (by rw [Int.natAbs_natCast]; exact Nat.lt_of_le_of_lt hl (Nat.lt_of_lt_of_le (show 62 < 2 ^ 6 by decide) (Nat.pow_le_pow_right (by decide) (by decide)))) (by decide)) (by decide))
      have dm : gDivmod [.int ((n / L ^ k : Nat) : Int), .int (L : Int)] = some (.tup [.int ((n / L ^ (k + 1) : Nat) : Int), .int ((n / L ^ k % L : Nat) : Int)]) := by
        show (if _ then _ else _) = _
        rw [if_pos ⟨by omega, np⟩]
        have e1 : ((n / L ^ k : Nat) : Int) / (L : Int) = ((n / L ^ (k + 1) : Nat) : Int) := by rw [Nat.pow_succ, ← Nat.div_div_eq_div_mul]; exact (Int.natCast_ediv (n / L ^ k) L).symm
        have e2 : ((n / L ^ k : Nat) : Int) % (L : Int) = ((n / L ^ k % L : Nat) : Int) := (Int.natCast_emod (n / L ^ k) L).symm
        rw [e1, e2]
      have hw : n / L ^ k % L < l.length := by rw [hL]; exact Nat.mod_lt _ h0
      have at2 : gIx (.str (St l)) (.int ((n / L ^ k % L : Nat) : Int)) = some (.str (St [l.getD (n / L ^ k % L) 0])) := at_St (by rw [hL]; exact sl_le (by omega)) (by simp [List.getD_eq_getElem?_getD, List.getElem?_eq_getElem hw])
      have ad := v_addS [l.getD (n / L ^ k % L) 0] (tt l n k)
      rw [show [l.getD (n / L ^ k % L) 0].length = 1 from rfl, tt_len, if_pos (sl_le (by omega))] at ad
      have e4 : tt l n (k + 1) = [l.getD (n / L ^ k % L) 0] ++ tt l n k := by rw [← hL]; rfl
      have hl2 : gLen [.str (St l)] = some (.int (L : Int)) := by rw [v_lenSt, hL, if_pos (sl_le (by omega))]
      rw [hL, e4]
      generalize St ([l.getD (n / L ^ k % L) 0] ++ tt l n k) = w1 at ad ⊢
      generalize St [l.getD (n / L ^ k % L) 0] = w2 at ad at2
      generalize St (tt l n k) = w3 at ad ⊢
      generalize ((n / L ^ k % L : Nat) : Int) = w4 at dm at2
      generalize ((n / L ^ k : Nat) : Int) = w5 at dm ⊢
      generalize ((n / L ^ (k + 1) : Nat) : Int) = w6 at dm ⊢
      generalize St l = w7 at hs at2 hl2
      refine ⟨_, v_nm _ _ _, [some (.ob r), some (.int (z : Int)), some (.int w6), some (.str w1), some (.int (k : Int)), some (.int w4)], s', ?_, rfl, _, _, rfl⟩
      simp (decide := true) [L_TextMaker_told_0, hi, hs, hl2, dm, at2, ad, cl_signs])
  obtain ⟨δ', s', e, ⟨rfl, y4, y5, rfl⟩⟩ := q
  exact ⟨y4, y5, e⟩
theorem told_val {bk : Bk} {k : Kd} {S : Sto} {i m : Nat} (hk : simpleK k) (t : Tabs (NN bk) bk (.mk k []) S i m) (z n : Nat) (hz : z ≤ 60) : S_Tables_told [.ob i, .int (z : Int), .int (n : Int)] S = .ok (tv k z n) S := by
  have hi := (lay_own t.top).2.1
  have hin := inO_of hi
  rw [show i + 2 + szB bk + szL [] = root (.mk k []) (i + 2 + szB bk) from rfl] at hin
  obtain ⟨r, hr⟩ : ∃ r, root (.mk k []) (i + 2 + szB bk) = r := ⟨_, rfl⟩
  rw [hr] at hin
  have ht : inO S (.ob i) = some ("Tables", tabF i r) := by rw [← hr]; exact tab_in t
  have main : ∀ (F : List D → Sto → R D), mt_told S_WholeMaker_told S_TextMaker_told (S_RowMaker_told 20) (S_ManyMaker_told 20) (S_RisingMaker_told 20) (S_AlikeMaker_told 20) (S_PickMaker_told 20) (S_UseMaker_told 20) (clsK k) = some F → F [.ob r, .int (z : Int), .int (n : Int)] S = .ok (tv k z n) S → S_Tables_told [.ob i, .int (z : Int), .int (n : Int)] S = .ok (tv k z n) S := fun F h1 h2 => by
    have fp := f_plain k r 0 (i + 1) (D.lst []) (.ob (r + 1)) (Str.ofString "told") (by simp)
    apply runG_rt
    generalize mt_told S_WholeMaker_told S_TextMaker_told (S_RowMaker_told 20) (S_ManyMaker_told 20) (S_RisingMaker_told 20) (S_AlikeMaker_told 20) (S_PickMaker_told 20) (S_UseMaker_told 20) = M at h1 ⊢
    have hin' : inO S (.ob r) = some (clsK k, (Str.ofString "within", D.lst []) :: (Str.ofString "counts", D.ob (r + 1)) :: fieldsK k r 0 (i + 1)) := by
      rw [hin]
      rfl
    have tt := tf_top i r
    simp (decide := true) [ht, cl_top, tt, hin', fp, h1, h2]
  rcases hk with ⟨lo, hi', rfl⟩ | ⟨l, rfl, h0, hl⟩
  · refine main S_WholeMaker_told rfl ?_
    cases z with
    | zero =>
      apply runG_rt
      simp (decide := true) [hin, cl_low, k_whole, fieldsK, List.lookup, beqS, tv]
    | succ z =>
      have h0 : ¬ (((z + 1 : Nat) : Int) = 0) := by omega
      have h1 : ((z + 1 : Nat) : Int) - 1 = (z : Int) := by omega
      have sh := shl1 z (by omega)
      generalize ((z + 1 : Nat) : Int) = w at h0 h1 ⊢
      apply runG_rt
      simp (decide := true) [hin, cl_low, k_whole, fieldsK, List.lookup, beqS, tv, h0, h1, sh]
  · refine main S_TextMaker_told rfl ?_
    obtain ⟨y4, y5, e⟩ := text_told_loop l h0 hl n z hz hin (by simp (decide := true) [fieldsK, List.lookup, beqS])
    have hr2 : rngOk (z : Int) := rngOk_nat (by omega)
    apply runG_rt
    simp [hr2, e, tv]
theorem text_law_loop (l : List Nat) (h0 : 0 < l.length) (hl : l.length ≤ 62) (n z : Nat) (hz : z ≤ 60) {S : Sto} :
    ∃ y4 y5, forD (.nm 4) L_l_value_0 (rngD 0 z) [some (.tup [.str (Str.ofString "text"), .str (St l)]), some (.int (z : Int)), some (.int (n : Int)), some (.str (St [])), none, none] S = .nx [some (.tup [.str (Str.ofString "text"), .str (St l)]), some (.int (z : Int)), some (.int ((n / l.length ^ z : Nat) : Int)), some (.str (St (tt l n z))), y4, y5] S := by
  have q := forR (p := .nm 4) (body := L_l_value_0) (lo := 0) (n := z) (δ := [some (.tup [.str (Str.ofString "text"), .str (St l)]), some (.int (z : Int)), some (.int (n : Int)), some (.str (St [])), none, none]) (s := S)
    (fun k δ s' => s' = S ∧ ∃ y4 y5, δ = [some (.tup [.str (Str.ofString "text"), .str (St l)]), some (.int (z : Int)), some (.int ((n / l.length ^ k : Nat) : Int)), some (.str (St (tt l n k))), y4, y5]) ⟨rfl, none, none, by simp [tt]⟩
    (fun k δ s' hk => by
      rintro ⟨rfl, y4, y5, rfl⟩
      obtain ⟨L, hL⟩ : ∃ L, l.length = L := ⟨_, rfl⟩
      rw [hL] at h0 hl
      have np : Builtin.divisionGoesByPylong ((n / L ^ k : Nat) : Int) (L : Int) = false := PyProof.noPylong_of_log2 (Nat.lt_of_lt_of_le (log_lt (a := 8000) (by rw [Int.natAbs_natCast]; exact Nat.lt_of_le_of_lt hl (Nat.lt_of_lt_of_le (show 62 < 2 ^ 6 by decide) (Nat.pow_le_pow_right (by decide) (by decide)))) (by decide)) (by decide))
      have dm : gDivmod [.int ((n / L ^ k : Nat) : Int), .int (L : Int)] = some (.tup [.int ((n / L ^ (k + 1) : Nat) : Int), .int ((n / L ^ k % L : Nat) : Int)]) := by
        show (if _ then _ else _) = _
        rw [if_pos ⟨by omega, np⟩]
        have e1 : ((n / L ^ k : Nat) : Int) / (L : Int) = ((n / L ^ (k + 1) : Nat) : Int) := by rw [Nat.pow_succ, ← Nat.div_div_eq_div_mul]; exact (Int.natCast_ediv (n / L ^ k) L).symm
        have e2 : ((n / L ^ k : Nat) : Int) % (L : Int) = ((n / L ^ k % L : Nat) : Int) := (Int.natCast_emod (n / L ^ k) L).symm
        rw [e1, e2]
      have hw : n / L ^ k % L < l.length := by rw [hL]; exact Nat.mod_lt _ h0
      have at2 : gIx (.str (St l)) (.int ((n / L ^ k % L : Nat) : Int)) = some (.str (St [l.getD (n / L ^ k % L) 0])) := at_St (by rw [hL]; exact sl_le (by omega)) (by simp [List.getD_eq_getElem?_getD, List.getElem?_eq_getElem hw])
      have ad := v_addS [l.getD (n / L ^ k % L) 0] (tt l n k)
      rw [show [l.getD (n / L ^ k % L) 0].length = 1 from rfl, tt_len, if_pos (sl_le (by omega))] at ad
      have e4 : tt l n (k + 1) = [l.getD (n / L ^ k % L) 0] ++ tt l n k := by rw [← hL]; rfl
      have hl2 : gLen [.str (St l)] = some (.int (L : Int)) := by rw [v_lenSt, hL, if_pos (sl_le (by omega))]
      rw [hL, e4]
      generalize St ([l.getD (n / L ^ k % L) 0] ++ tt l n k) = w1 at ad ⊢
      generalize St [l.getD (n / L ^ k % L) 0] = w2 at ad at2
      generalize St (tt l n k) = w3 at ad ⊢
      generalize ((n / L ^ k % L : Nat) : Int) = w4 at dm at2
      generalize ((n / L ^ k : Nat) : Int) = w5 at dm ⊢
      generalize ((n / L ^ (k + 1) : Nat) : Int) = w6 at dm ⊢
      have a1 : atI [D.str (Str.ofString "text"), .str (St l)] 1 = some (.str (St l)) := atI_ofNat _ (j := 1) (by simp)
      refine ⟨_, v_nm _ _ _, [some (.tup [.str (Str.ofString "text"), .str (St l)]), some (.int (z : Int)), some (.int w6), some (.str w1), some (.int (k : Int)), some (.int w4)], s', ?_, rfl, _, _, rfl⟩
      simp (decide := true) [L_l_value_0, a1, hl2, dm, at2, ad])
  obtain ⟨δ', s', e, ⟨rfl, y4, y5, rfl⟩⟩ := q
  exact ⟨y4, y5, e⟩
theorem value_val {k : Kd} (hk : simpleK k) (z n : Nat) (hz : z ≤ 60) (s : Sto) : S_l_value [Sh.d (.mk k []), .int (z : Int), .int (n : Int)] s = .ok (tv k z n) s := by
  rcases hk with ⟨lo, hi, rfl⟩ | ⟨l, rfl, h0, hl⟩
  · have ed : Sh.d (.mk (.whole lo hi) []) = .tup [.str (Str.ofString "whole"), .int lo, .int hi] := rfl
    have a0 : atI [D.str (Str.ofString "whole"), .int lo, .int hi] 0 = some (.str (Str.ofString "whole")) := atI_ofNat _ (j := 0) (by simp)
    have a1 : atI [D.str (Str.ofString "whole"), .int lo, .int hi] 1 = some (.int lo) := atI_ofNat _ (j := 1) (by simp)
    rw [ed]
    cases z with
    | zero =>
      apply runG_rt
      simp [a0, a1, tv]
    | succ z =>
      have h0 : ¬ (((z + 1 : Nat) : Int) = 0) := by omega
      have h1 : ((z + 1 : Nat) : Int) - 1 = (z : Int) := by omega
      have sh := shl1 z (by omega)
      generalize ((z + 1 : Nat) : Int) = w at h0 h1 ⊢
      apply runG_rt
      simp [a0, a1, tv, h0, h1, sh]
  · have ed : Sh.d (.mk (.text (St l)) []) = .tup [.str (Str.ofString "text"), .str (St l)] := rfl
    have a0 : atI [D.str (Str.ofString "text"), .str (St l)] 0 = some (.str (Str.ofString "text")) := atI_ofNat _ (j := 0) (by simp)
    have ne : ¬ Str.ofString "text" = Str.ofString "whole" := by decide +kernel
    obtain ⟨y4, y5, e⟩ := text_law_loop l h0 hl n z hz (S := s)
    have hr2 : rngOk (z : Int) := rngOk_nat (by omega)
    rw [ed]
    apply runG_rt
    simp [a0, ne, hr2, e, tv]
end Law

/-! TDc: values drawn. -/
namespace Law
open PySem L2 Gs MCh Tb
def drw (k : Kd) (z base count : Nat) (ns : List Nat) : List D := (ns.filter fun n => decide (n < base - base % count)).map fun n => tv k z (n % count)
theorem fst1_none {lim : Nat} : ∀ {ns : List Nat}, fst1 lim ns = none → ns.filter (fun n => decide (n < lim)) = []
  | [], _ => rfl
  | n :: ns, h => by
    by_cases c : n < lim
    · simp [fst1, c] at h
    · simp only [fst1, c, if_false, Option.map_eq_none_iff] at h
      rw [List.filter_cons, if_neg (by simpa using c)]
      exact fst1_none h
theorem fst1_some {lim : Nat} : ∀ {ns : List Nat} {m v : Nat}, fst1 lim ns = some (m, v) → ns.filter (fun n => decide (n < lim)) = v :: (ns.drop m).filter (fun n => decide (n < lim)) ∧ 0 < m ∧ m ≤ ns.length
  | [], _, _, h => by simp [fst1] at h
  | n :: ns, m, v, h => by
    by_cases c : n < lim
    · simp only [fst1, c, if_true, Option.some.injEq, Prod.mk.injEq] at h
      obtain ⟨rfl, rfl⟩ := h
      simp [List.filter_cons, c]
    · simp only [fst1, c, if_false, Option.map_eq_some_iff] at h
      obtain ⟨⟨m', v'⟩, e, e2⟩ := h
      injection e2 with e2 e3
      subst e2
      subst e3
      obtain ⟨h1, h2, h3⟩ := fst1_some e
      refine ⟨?_, by omega, by simp; omega⟩
      rw [List.filter_cons, if_neg (by simpa using c), h1]
      rfl
theorem cut_lo (xs : List D) (m : Nat) : gSl (.lst xs) (some (m : Int)) none = some (.lst (xs.drop m)) := by
  show some (D.lst (cutD _ _ _)) = _
  have e : cutD xs (some (m : Int)) none = xs.drop m := by
    unfold cutD
    rw [HT.sIx_nat, HT.sIx_none]
    by_cases h : m ≤ xs.length
    · rw [Nat.min_eq_left h, List.take_of_length_le (by simp)]
    · have e : min m xs.length = xs.length := by omega
      rw [e, List.drop_of_length_le (Nat.le_refl _), List.drop_of_length_le (by omega)]
      simp
  rw [e]
theorem drawn_loop {bk : Bk} {k : Kd} (hk : simpleK k) (z base count : Nat) (hz : z ≤ 60) (hc : 0 < count) (hc2 : count < 2 ^ 8000) {T : Sto} {i mm : Nat} (t : Tabs (NN bk) bk (.mk k []) T i mm) (x0 x1 x3 : Option D) : ∀ (fuel : Nat) (left : List Nat) (found : List D) (x9 x10 : Option D), left.length < fuel → found.length + left.length ≤ 500 →
    ∃ y7 y9 y10, whileD T_drawn_values_0 L_drawn_values_0 fuel [x0, x1, some (.int (z : Int)), x3, some (.int (base : Int)), some (.ob i), some (.int (count : Int)), some (.lst (nI left)), some (.ob T.length), x9, x10] (T ++ [.lst found]) =
      .nx [x0, x1, some (.int (z : Int)), x3, some (.int (base : Int)), some (.ob i), some (.int (count : Int)), y7, some (.ob T.length), y9, y10] (T ++ [.lst (found ++ drw k z base count left)]) := by
  intro fuel
  induction fuel with
  | zero => intro left found x9 x10 h; omega
  | succ fuel ih =>
    intro left found x9 x10 h hb
    obtain ⟨f1, f2⟩ := fair_val base count hc hc2 left (T ++ [.lst found])
    have tc : T_drawn_values_0 [x0, x1, some (.int (z : Int)), x3, some (.int (base : Int)), some (.ob i), some (.int (count : Int)), some (.lst (nI left)), some (.ob T.length), x9, x10] (T ++ [.lst found]) = .ok true (T ++ [.lst found]) := by simp [T_drawn_values_0]
    cases q : fst1 (base - base % count) left with
    | none =>
      have b : L_drawn_values_0 [x0, x1, some (.int (z : Int)), x3, some (.int (base : Int)), some (.ob i), some (.int (count : Int)), some (.lst (nI left)), some (.ob T.length), x9, x10] (T ++ [.lst found]) = .bk [x0, x1, some (.int (z : Int)), x3, some (.int (base : Int)), some (.ob i), some (.int (count : Int)), some (.lst (nI left)), some (.ob T.length), x9, x10] (T ++ [.lst found]) := by
        have f2' := f2 q
        generalize T ++ [O.lst found] = S at f2' ⊢
        simp (decide := true) [L_drawn_values_0, f2', xt_NoDraw]
      refine ⟨some (.lst (nI left)), x9, x10, ?_⟩
      have e : drw k z base count left = [] := by unfold drw; rw [fst1_none q]; rfl
      rw [e, List.append_nil]
      simp only [whileD, tc, b]
    | some p =>
      obtain ⟨m, v⟩ := p
      obtain ⟨h1, h2, h3⟩ := fst1_some q
      have tl := told_val hk (t.more [.lst found]) z (v % count) hz
      have hin := tab_in (t.more [.lst found])
      have hd : (left.drop m).length = left.length - m := by simp
      obtain ⟨y7, y9, y10, e⟩ := ih (left.drop m) (found ++ [tv k z (v % count)]) (some (.int (m : Int))) (some (.int ((v % count : Nat) : Int))) (by omega) (by simp; omega)
      have b : L_drawn_values_0 [x0, x1, some (.int (z : Int)), x3, some (.int (base : Int)), some (.ob i), some (.int (count : Int)), some (.lst (nI left)), some (.ob T.length), x9, x10] (T ++ [.lst found]) =
          .nx [x0, x1, some (.int (z : Int)), x3, some (.int (base : Int)), some (.ob i), some (.int (count : Int)), some (.lst (nI (left.drop m))), some (.ob T.length), some (.int (m : Int)), some (.int ((v % count : Nat) : Int))] (T ++ [.lst (found ++ [tv k z (v % count)])]) := by
        have f1' := f1 m v q
        have hl : found.length < sizeLine := Nat.lt_of_lt_of_le (show found.length < 1000 by omega) (by decide)
        have cl := cut_lo (nI left) m
        have e2 : (nI left).drop m = nI (left.drop m) := by simp [nI]
        rw [e2] at cl
        have ls : lsO (T ++ [O.lst found]) (.ob T.length) = some found := lsO_mid _ _ _
        have st : (T ++ [O.lst found]).set T.length (.lst (found ++ [tv k z (v % count)])) = T ++ [O.lst (found ++ [tv k z (v % count)])] := set_mid _ _ _ _
        have tp := tf_plain i (root (.mk k []) (i + 2 + szB bk)) (Str.ofString "told") (by simp)
        generalize tv k z (v % count) = w at tl st ⊢
        generalize ((v % count : Nat) : Int) = w2 at f1' tl ⊢
        generalize T ++ [O.lst (found ++ [w])] = S2 at st ⊢
        generalize T ++ [O.lst found] = S at f1' tl hin ls st ⊢
        simp (decide := true) [L_drawn_values_0, f1', ls, hl, hin, tp, mt_told_T, tl, st, cl]
      refine ⟨y7, y9, y10, ?_⟩
      have e3 : drw k z base count left = tv k z (v % count) :: drw k z base count (left.drop m) := by unfold drw; rw [h1]; rfl
      rw [e3]
      simp only [whileD, tc, b]
      rw [e]
      simp
theorem drawn_val {B M : Nat} {bk : Bk} {k : Kd} (hk : simpleK k) (g : Good bk (.mk k []) B M) (z base : Nat) (hz : z ≤ M) (hc2 : tc bk (.mk k []) z < 2 ^ 8000) (ns : List Nat) (hns : ns.length ≤ 400) (s : Sto) (x3 : D) (h3 : ∀ G, rsv (s ++ G) x3 = .lst (nI ns)) :
    ∃ G, (tc bk (.mk k []) z = 0 → S_drawn_values [bookD bk, Sh.d (.mk k []), .int (z : Int), x3, .int (base : Int)] s = .exc ⟨"NoDraw", []⟩ (s ++ G)) ∧
      (0 < tc bk (.mk k []) z → S_drawn_values [bookD bk, Sh.d (.mk k []), .int (z : Int), x3, .int (base : Int)] s = .ok (.ob (s ++ G).length) (s ++ G ++ [.lst (drw k z base (tc bk (.mk k []) z) ns)])) := by
  obtain ⟨G, e1, e2, t⟩ := grown g hz s
  have hm := g.m
  have e3 := counts_at_val t (Nat.lt_succ_self z)
  have h3' := h3 G
  have hin : inO (s ++ tabsO (NN bk) bk (.mk k []) s.length 0) (.ob s.length) = some ("Tables", tabF s.length (root (.mk k []) (s.length + 2 + szB bk))) := tab_in (tabs_at s)
  have hin2 := tab_in t
  refine ⟨G, ?_⟩
  generalize bookD bk = bd at *
  generalize Sh.d (.mk k []) = pd at *
  have mk : eMake "Tables" S_Tables___init__ (aCons (eV 0) (aCons (eV 1) aNil)) [some bd, some pd, some (.int (z : Int)), some x3, some (.int (base : Int)), none, none, none, none, none, none] s = .ok (.ob s.length) (s ++ tabsO (NN bk) bk (.mk k []) s.length 0) := by
    simp [e1]
  generalize s ++ tabsO (NN bk) bk (.mk k []) s.length 0 = S0 at *
  have tp1 := tf_plain s.length (root (.mk k []) (s.length + 2 + szB bk)) (Str.ofString "grow_to") (by simp)
  have tp2 := tf_plain s.length (root (.mk k []) (s.length + 2 + szB bk)) (Str.ofString "counts_at") (by simp)
  have lp := fun hc : 0 < tc bk (.mk k []) z => drawn_loop hk z base (tc bk (.mk k []) z) (by omega) hc hc2 t (some bd) (some pd) (some x3) fuel ns [] none none (Nat.lt_of_le_of_lt hns (by decide)) (by simp; omega)
  obtain ⟨c, hc⟩ : ∃ c, tc bk (.mk k []) z = c := ⟨_, rfl⟩
  rw [hc] at e3 lp hc2 ⊢
  generalize s ++ G = S1 at *
  have pre : ∀ (f : S) (r : RS), f [some bd, some pd, some (.int (z : Int)), some x3, some (.int (base : Int)), some (.ob s.length), some (.int (c : Int)), none, none, none, none] S1 = r →
      sSeq (sSet 5 (eMake "Tables" S_Tables___init__ (aCons (eV 0) (aCons (eV 1) (aNil))))) (sSeq (sDrop (eMeth (mt_grow_to_T S_Tables_grow_to) "grow_to" (eV 5) (aCons (eV 2) (aNil)))) (sSeq (sSet 6 (eMeth (mt_counts_at_T S_Tables_counts_at) "counts_at" (eV 5) (aCons (eV 2) (aNil)))) f))
        [some bd, some pd, some (.int (z : Int)), some x3, some (.int (base : Int)), none, none, none, none, none, none] s = r := fun f r h => by
    refine sq_nx (δ' := [some bd, some pd, some (.int (z : Int)), some x3, some (.int (base : Int)), some (.ob s.length), none, none, none, none, none]) (s' := S0) (by rw [v_sSet, mk]; simp) ?_
    refine sq_nx (δ' := [some bd, some pd, some (.int (z : Int)), some x3, some (.int (base : Int)), some (.ob s.length), none, none, none, none, none]) (s' := S1) (by simp (decide := true) [hin, tp1, mt_grow_to_T, e2]) ?_
    refine sq_nx (δ' := [some bd, some pd, some (.int (z : Int)), some x3, some (.int (base : Int)), some (.ob s.length), some (.int (c : Int)), none, none, none, none]) (s' := S1) (by simp (decide := true) [hin2, tp2, mt_counts_at_T, e3]) ?_
    exact h
  refine ⟨fun h0 => ?_, fun h0 => ?_⟩
  · subst h0
    refine runG_exc (δ := [some bd, some pd, some (.int (z : Int)), some x3, some (.int (base : Int)), some (.ob s.length), some (.int 0), none, none, none, none]) ?_
    refine pre _ _ ?_
    simp
  · obtain ⟨y7, y9, y10, e⟩ := lp h0
    have hne : ¬ (c : Int) = 0 := by omega
    have hne2 : ¬ c = 0 := by omega
    apply runG_rt
    refine pre _ _ ?_
    refine sq_nx (δ' := [some bd, some pd, some (.int (z : Int)), some x3, some (.int (base : Int)), some (.ob s.length), some (.int (c : Int)), none, none, none, none]) (s' := S1) (by simp [hne2]) ?_
    refine sq_nx (δ' := [some bd, some pd, some (.int (z : Int)), some x3, some (.int (base : Int)), some (.ob s.length), some (.int (c : Int)), some (.lst (nI ns)), none, none, none]) (s' := S1) (by simp [h3', gList]) ?_
    refine sq_nx (δ' := [some bd, some pd, some (.int (z : Int)), some x3, some (.int (base : Int)), some (.ob s.length), some (.int (c : Int)), some (.lst (nI ns)), some (.ob S1.length), none, none]) (s' := S1 ++ [.lst []]) (by simp) ?_
    refine sq_nx e ?_
    simp
end Law

/-! TDd: k62's own parts. -/
namespace Law
open PySem L2 Gs MCh Tb
def al : List Nat := lets ++ grts ++ figs
theorem c_al : Str.ofString "abcdefghijklmnopqrstuvwxyzABCDEFGHIJKLMNOPQRSTUVWXYZ0123456789" = St al := of_St (by decide +kernel)
theorem al_len : al.length = 62 := by decide +kernel
theorem joinS1 (ts : List Nat) (h : ts.length ≤ 100000) : gJoin (.str (St [])) [.lst (ts.map fun c => .str (St [c]))] = some (.str (St ts)) := by
  have e : ts.map (fun c => D.str (St [c])) = (ts.map fun c => St [c]).map D.str := by simp
  have e0 : (ts.map (fun c => St [c])).map (·.length) = ts.map fun _ => 1 := by simp
  have e1 : ∀ l : List Nat, (l.map fun _ => 1).sum = l.length := fun l => by
    induction l with
    | nil => rfl
    | cons x l ih => simp [ih]; omega
  have ej : Txt.join (St []) (ts.map fun c => St [c]) = St ts := by
    rw [TL.join_eq]
    refine TL.ext_tl ?_
    rw [TL.tl_join]
    have e2 : ((ts.map fun c => St [c])).map TL.tl = ts.map fun c => [c] := by
      rw [List.map_map]
      rfl
    rw [e2]
    have e3 : ∀ l : List Nat, TL.joinL [] (l.map fun c => [c]) = l := fun l => by
      induction l with
      | nil => rfl
      | cons x l ih => cases l with
        | nil => rfl
        | cons y l => simpa [TL.joinL] using ih
    exact e3 ts
  rw [e]
  simp only [gJoin, strsOf_map, Option.bind_some]
  rw [if_pos (by rw [e0, e1]; simp; omega), ej]
theorem cell_val (ns : List Int) (hn : ns.length ≤ 63) (k : Nat) (s : Sto) : ∃ c : Int, S_l_cell_at [.lst (ns.map D.int), .int (k : Int)] s = .ok (.int c) s := by
  have hl : ns.length ≤ sizeLine := sl_le (by omega)
  by_cases h : k < ns.length
  · have a : atI (ns.map D.int) (k : Int) = some (.int ns[k]) := by rw [atI_ofNat _ (by simpa using h)]; simp
    refine ⟨ns[k], ?_⟩
    have hi : (k : Int) < (ns.length : Int) := by omega
    apply runG_rt
    simp [hl, h, a]
  · refine ⟨0, ?_⟩
    apply runG_rt
    simp [hl, h]
theorem lcG {i : Nat} {δ : Sl} {e : E} {s : Sto} (f : Nat → D) (n : Nat) (h : ∀ z, z < n → e (δ.set i (some (.int (z : Int)))) s = .ok (f z) s) : lcD (.nm i) tTrue e δ (rngD 0 n) s = .ok ((List.range n).map f) s := by
  have e1 : rngD 0 n = (List.range n).map fun (z : Nat) => .int (z : Int) := by simp [rngD]
  rw [e1]
  exact lcD_mapL (g := fun (z : Nat) => .int (z : Int)) (f := f) (List.range n) fun z hz => ⟨_, v_nm _ _ _, rfl, h z (List.mem_range.mp hz)⟩
theorem signs_val (c : Int) (m : Nat) (hm : m ≤ 62) (s : Sto) : ∃ l : List Nat, l.length = m ∧ S_l_signs [.int c, .int (m : Int)] s = .ok (.str (St l)) s := by
  refine ⟨(List.range m).map fun (k : Nat) => al.getD ((c + 7 * (k : Int)) % 62).toNat 0, by simp, ?_⟩
  have lc := lcG (i := 3) (δ := [some (.int c), some (.int (m : Int)), some (.str (St al)), none]) (s := s) (e := eBin gIx (eV 2) (eBin gMod (eBin gAdd (eV 0) (eBin gMul (eC (.int 7)) (eV 3))) (eC (.int 62)))) (fun k => .str (St [al.getD ((c + 7 * (k : Int)) % 62).toNat 0])) m fun k hk => by
    obtain ⟨w, hw⟩ : ∃ w : Nat, (c + 7 * (k : Int)) % 62 = (w : Int) := ⟨((c + 7 * (k : Int)) % 62).toNat, by rw [Int.toNat_of_nonneg (Int.emod_nonneg _ (by decide))]⟩
    have hw2 : w < 62 := by omega
    have at2 : gIx (.str (St al)) (.int (w : Int)) = some (.str (St [al.getD w 0])) := at_St (by rw [al_len]; exact sl_le (by decide)) (by
      have : w < al.length := by rw [al_len]; exact hw2
      simp [List.getD_eq_getElem?_getD, List.getElem?_eq_getElem this])
    have m7 : IntMulOk 7 (k : Int) := mul_fitsL (by decide)
    have d62 : divOk 62 := divOk_small (by decide) (by decide)
    rw [hw, Int.toNat_natCast]
    generalize St al = A at at2 ⊢
    generalize St [al.getD w 0] = A2 at at2 ⊢
    simp [m7, hw, at2]
  have j := joinS1 ((List.range m).map fun (k : Nat) => al.getD ((c + 7 * (k : Int)) % 62).toNat 0) (by simp; omega)
  rw [List.map_map] at j
  have e0 : ((fun c => D.str (St [c])) ∘ fun (k : Nat) => al.getD ((c + 7 * (k : Int)) % 62).toNat 0) = fun (k : Nat) => D.str (St [al.getD ((c + 7 * (k : Int)) % 62).toNat 0]) := rfl
  rw [e0] at j
  have hr : rngOk (m : Int) := rngOk_nat (by omega)
  have hl : ((List.range m).map fun (k : Nat) => D.str (St [al.getD ((c + 7 * (k : Int)) % 62).toNat 0])).length ≤ sizeLine := by simp; exact sl_le (by omega)
  generalize St ((List.range m).map fun (k : Nat) => al.getD ((c + 7 * (k : Int)) % 62).toNat 0) = R at j ⊢
  generalize (List.range m).map (fun (k : Nat) => D.str (St [al.getD ((c + 7 * (k : Int)) % 62).toNat 0])) = L at lc j hl
  apply runG_rt
  rw [c_al]
  refine sq_nx (δ' := [some (.int c), some (.int (m : Int)), some (.str (St al)), none]) (s' := s) (by simp) ?_
  generalize St al = A at lc ⊢
  simp [hr, wipeD, lc, hl, j]
theorem count_val {bk : Bk} {k : Kd} (hk : simpleK k) (z : Nat) (hz : z ≤ 60) (s : Sto) : S_l_count [Sh.d (.mk k []), .int (z : Int)] s = .ok (.int (tc bk (.mk k []) z : Nat)) s := by
  rcases hk with ⟨lo, hi, rfl⟩ | ⟨l, rfl, h0, hl⟩
  · have ed : Sh.d (.mk (.whole lo hi) []) = .tup [.str (Str.ofString "whole"), .int lo, .int hi] := rfl
    have a0 : atI [D.str (Str.ofString "whole"), .int lo, .int hi] 0 = some (.str (Str.ofString "whole")) := atI_ofNat _ (j := 0) (by simp)
    have a1 : atI [D.str (Str.ofString "whole"), .int lo, .int hi] 1 = some (.int lo) := atI_ofNat _ (j := 1) (by simp)
    have a2 : atI [D.str (Str.ofString "whole"), .int lo, .int hi] 2 = some (.int hi) := atI_ofNat _ (j := 2) (by simp)
    have ne : ¬ Str.ofString "whole" = Str.ofString "text" := by decide +kernel
    have et : tc bk (.mk (.whole lo hi) []) z = wcnt (hi - lo) z := rfl
    rw [ed, et]
    cases z with
    | zero =>
      apply runG_rt
      simp [a0, a1, a2, ne, wcnt]
    | succ z =>
      have h0 : ¬ (((z + 1 : Nat) : Int) = 0) := by omega
      have h1 : ((z + 1 : Nat) : Int) - 1 = (z : Int) := by omega
      have sh := shl1 z (by omega)
      have sh2 := shl1 (z + 1) (by omega)
      have hp : (2 : Int) ^ (z + 1) = 2 * 2 ^ z := by rw [Int.pow_succ, Int.mul_comm]
      have hq : (0 : Int) < 2 ^ z := Int.pow_pos (by decide)
      have ew : (if 0 < (if 2 ^ (z + 1) - 1 < hi - lo then (2 : Int) ^ (z + 1) - 1 else hi - lo) - 2 ^ z + 1 then (if 2 ^ (z + 1) - 1 < hi - lo then (2 : Int) ^ (z + 1) - 1 else hi - lo) - 2 ^ z + 1 else 0) = ((wcnt (hi - lo) (z + 1) : Nat) : Int) := by
        show _ = (((max 0 (min (hi - lo) (2 * 2 ^ z - 1) - 2 ^ z + 1)).toNat : Nat) : Int)
        rw [hp]
        generalize (2 : Int) ^ z = q at hq
        split <;> split <;> omega
      generalize ((wcnt (hi - lo) (z + 1) : Nat) : Int) = w2 at ew ⊢
      generalize ((z + 1 : Nat) : Int) = w at h0 h1 sh2 ⊢
      generalize (2 : Int) ^ (z + 1) = w3 at sh2 ew
      generalize (2 : Int) ^ z = w4 at sh ew
      apply runG_rt
      simp [a0, a1, a2, ne, h0, h1, sh, sh2, ew]
  · have ed : Sh.d (.mk (.text (St l)) []) = .tup [.str (Str.ofString "text"), .str (St l)] := rfl
    have a0 : atI [D.str (Str.ofString "text"), .str (St l)] 0 = some (.str (Str.ofString "text")) := atI_ofNat _ (j := 0) (by simp)
    have a1 : atI [D.str (Str.ofString "text"), .str (St l)] 1 = some (.str (St l)) := atI_ofNat _ (j := 1) (by simp)
    have et : tc bk (.mk (.text (St l)) []) z = l.length ^ z := by
      show (St l).length ^ z = _
      rw [St_len]
    rw [ed, et]
    have hl2 : gLen [.str (St l)] = some (.int (l.length : Int)) := by rw [v_lenSt, if_pos (sl_le (by omega))]
    have q := forR (p := .nm 3) (body := L_l_count_0) (lo := 0) (n := z) (δ := [some (.tup [.str (Str.ofString "text"), .str (St l)]), some (.int (z : Int)), some (.int 1), none, none]) (s := s)
      (fun k δ s' => s' = s ∧ ∃ y, δ = [some (.tup [.str (Str.ofString "text"), .str (St l)]), some (.int (z : Int)), some (.int ((l.length ^ k : Nat) : Int)), y, none]) ⟨rfl, none, rfl⟩
      (fun k δ s' hk => by
        rintro ⟨rfl, y, rfl⟩
        have m1 : IntMulOk ((l.length ^ k : Nat) : Int) (l.length : Int) := mul_fitsR (by rw [Int.natAbs_natCast]; omega)
        have e : ((l.length ^ k : Nat) : Int) * (l.length : Int) = ((l.length ^ (k + 1) : Nat) : Int) := by rw [Nat.pow_succ]; push_cast; rfl
        generalize ((l.length ^ (k + 1) : Nat) : Int) = w at e ⊢
        generalize ((l.length ^ k : Nat) : Int) = w2 at m1 e ⊢
        generalize (l.length : Int) = w3 at hl2 m1 e
        refine ⟨_, v_nm _ _ _, [some (.tup [.str (Str.ofString "text"), .str (St l)]), some (.int (z : Int)), some (.int w), some (.int (k : Int)), none], s', ?_, rfl, _, rfl⟩
        generalize St l = A at a1 hl2 ⊢
        simp [L_l_count_0, a1, hl2, m1, e])
    obtain ⟨δ', s', e, ⟨rfl, y, rfl⟩⟩ := q
    have hr : rngOk (z : Int) := rngOk_nat (by omega)
    generalize ((l.length ^ z : Nat) : Int) = w at e ⊢
    apply runG_rt
    simp [a0, hr, e]
end Law

/-! TDe: values alike; a refusal. -/
namespace Law
open PySem L2 Gs MCh Tb
theorem forD_nx {p : Pt} {body : S} {d : D} {ds : List D} {δ δ1 δ2 : Sl} {s s2 : Sto} (h1 : bindP p d δ = some δ1) (h2 : body δ1 s = .nx δ2 s2) : forD p body (d :: ds) δ s = forD p body ds δ2 s2 := by
  simp only [forD, h1, h2]
theorem zip_self (xs : List D) : zipD xs xs = xs.map fun x => .tup [x, x] := by
  unfold zipD
  induction xs with
  | nil => rfl
  | cons x xs ih => simp [ih]
def isV (x : D) : Prop := (∃ i, x = .int i) ∨ ∃ z, x = .str z
theorem alike_loop (s : Sto) (x0 x1 : Option D) : ∀ (xs : List D), (∀ x ∈ xs, isV x) → ∀ (y z : Option D), ∃ y' z', forD (.tp [.nm 2, .nm 3]) L_l_alike_0 (xs.map fun x => .tup [x, x]) [x0, x1, y, z] s = .nx [x0, x1, y', z'] s
  | [], _, y, z => ⟨y, z, rfl⟩
  | x :: xs, h, y, z => by
    obtain ⟨y', z', e⟩ := alike_loop s x0 x1 xs (fun q hq => h q (by simp [hq])) (some x) (some x)
    refine ⟨y', z', ?_⟩
    rw [List.map_cons]
    refine (forD_nx (δ1 := [x0, x1, some x, some x]) (by simp) ?_).trans e
    rcases h x (by simp) with ⟨i, rfl⟩ | ⟨w, rfl⟩
    · simp [L_l_alike_0]
    · simp [L_l_alike_0]
theorem alike_val (xs : List D) (h : ∀ x ∈ xs, isV x) (hl : xs.length ≤ 500) (s : Sto) : S_l_alike [.lst xs, .lst xs] s = .ok (.bl true) s := by
  obtain ⟨y', z', e⟩ := alike_loop s (some (.lst xs)) (some (.lst xs)) xs h none none
  have hz : xs.length ≤ sizeLine := sl_le (by omega)
  apply runG_rt
  simp [hz, zip_self, e]
theorem tv_isV {k : Kd} (hk : simpleK k) (z n : Nat) : isV (tv k z n) := by
  rcases hk with ⟨lo, hi, rfl⟩ | ⟨l, rfl, _, _⟩
  · cases z with
    | zero => exact .inl ⟨_, rfl⟩
    | succ z => exact .inl ⟨_, rfl⟩
  · exact .inr ⟨_, rfl⟩
theorem drw_isV {k : Kd} (hk : simpleK k) (z base count : Nat) (ns : List Nat) : ∀ x ∈ drw k z base count ns, isV x := fun x hx => by
  obtain ⟨n, _, rfl⟩ := List.mem_map.mp hx
  exact tv_isV hk z _
theorem drw_len (k : Kd) (z base count : Nat) (ns : List Nat) : (drw k z base count ns).length ≤ ns.length := by
  unfold drw
  rw [List.length_map]
  exact List.length_filter_le _ _
theorem refused_val (bd pd x3 : D) (z base : Nat) (s s' : Sto) (h : S_drawn_values [bd, pd, .int (z : Int), x3, .int (base : Int)] s = .exc ⟨"NoDraw", []⟩ s') : S_l_refused [bd, pd, .int (z : Int), x3, .int (base : Int)] s = .ok (.bl true) s' := by
  apply runG_rt
  simp (decide := true) [h, xt_NoDraw, evD, tb_NoNumber, tb_TooMany, tb_CountError, tb_ValueError]
end Law

/-! TK62: k62. -/
namespace Law
open PySem L2 Gs MCh Tb
def bk62 : Bk := [(Str.ofString "some", .mk (.text (Str.ofString "ab")) [])]
theorem fit62 {k : Kd} (hk : simpleK k) : Fit bk62 (.mk k []) := by
  have e1 : (Sh.mk k []).ok := by rcases hk with ⟨lo, hi, rfl⟩ | ⟨x, rfl, _⟩ <;> exact ⟨rfl, trivial⟩
  have e2 : inS (Nm bk62) (.mk k []) := by rcases hk with ⟨lo, hi, rfl⟩ | ⟨x, rfl, h0, h⟩ <;> first | exact ⟨trivial, trivial⟩ | exact ⟨by show (St x).length ≤ 100; rw [St_len]; omega, trivial⟩
  refine ⟨fun q hq => ?_, fun q hq => ?_, by simp [bk62], by simp [bk62], e1, by simp [Sh.dep, depL], fun q hq => ?_, e2, fun q hq => ?_, by simp [nN, nL]⟩ <;> (simp [bk62] at hq; subst hq)
  · exact ⟨rfl, trivial⟩
  · simp [Sh.dep, depL]
  · exact ⟨by show (Str.ofString "ab").length ≤ 100; decide +kernel, trivial⟩
  · simp [nN, nL]
theorem small62 {k : Kd} (hk : simpleK k) {z : Nat} (hz : z ≤ 16) : tc bk62 (.mk k []) z < 2 ^ 8000 := by
  refine Nat.lt_of_lt_of_le (m := 2 ^ 100) ?_ (Nat.pow_le_pow_right (by decide) (by decide))
  rcases hk with ⟨lo, hi, rfl⟩ | ⟨l, rfl, h0, hl⟩
  · show wcnt (hi - lo) z < _
    cases z with
    | zero => exact (by decide : 1 < 2 ^ 100)
    | succ z =>
      show (max 0 (min (hi - lo) (2 * 2 ^ z - 1) - 2 ^ z + 1)).toNat < _
      have h1 : (2 : Int) ^ z ≤ 65536 := by
        have q : 2 ^ z ≤ 2 ^ 16 := Nat.pow_le_pow_right (by decide) (by omega)
        have q2 : 2 ^ z ≤ 65536 := q
        have e : (2 : Int) ^ z = ((2 ^ z : Nat) : Int) := by push_cast; rfl
        rw [e]
        exact Int.ofNat_le.mpr q2
      have h2 : (0 : Int) < 2 ^ z := Int.pow_pos (by decide)
      generalize (2 : Int) ^ z = q at h1 h2
      have h4 : (2 : Nat) ^ 100 = 1267650600228229401496703205376 := by decide
      rw [h4]
      omega
  · show (St l).length ^ z < _
    rw [St_len]
    refine Nat.lt_of_le_of_lt (Nat.pow_le_pow_left (show l.length ≤ 2 ^ 6 by omega) z) ?_
    rw [← Nat.pow_mul]
    exact Nat.pow_lt_pow_right (by decide) (by omega)
theorem due_loop {k : Kd} (hk : simpleK k) (z base count : Nat) (hz : z ≤ 60) (hc : 0 < count) (x0 x1 x4 x7 x8 x11 x12 x13 x14 : Option D) : ∀ (ns : List Nat) (found : List D) (x10 : Option D), found.length + ns.length ≤ 500 →
    ∃ y10, forD (.nm 10) L_law_0 (nI ns) [x0, x1, some (Sh.d (.mk k [])), some (.int (z : Int)), x4, some (.int (count : Int)), some (.int (base : Int)), x7, x8, some (.ob 0), x10, x11, x12, x13, x14] [.lst found] =
      .nx [x0, x1, some (Sh.d (.mk k [])), some (.int (z : Int)), x4, some (.int (count : Int)), some (.int (base : Int)), x7, x8, some (.ob 0), y10, x11, x12, x13, x14] [.lst (found ++ drw k z base count ns)]
  | [], found, x10, _ => ⟨x10, by simp [nI, forD, drw]⟩
  | n :: ns, found, x10, hl => by
    have hcp : (0 : Int) < (count : Int) := by omega
    have hle : base % count ≤ base := Nat.mod_le _ _
    have e1 : (base : Int) % (count : Int) = ((base % count : Nat) : Int) := by push_cast; rfl
    have e2 : (base : Int) - ((base % count : Nat) : Int) = ((base - base % count : Nat) : Int) := by rw [Int.ofNat_sub hle]
    have e3 : (n : Int) % (count : Int) = ((n % count : Nat) : Int) := by push_cast; rfl
    have hfl : found.length < sizeLine := Nat.lt_of_lt_of_le (show found.length < 1000 by simp at hl; omega) (by decide)
    have tl := value_val hk z (n % count) hz [.lst found]
    show ∃ y10, forD (.nm 10) L_law_0 (.int (n : Int) :: nI ns) _ _ = _
    by_cases c : n < base - base % count
    · obtain ⟨y10, e⟩ := due_loop hk z base count hz hc x0 x1 x4 x7 x8 x11 x12 x13 x14 ns (found ++ [tv k z (n % count)]) (some (.int (n : Int))) (by simp at hl ⊢; omega)
      have ed : drw k z base count (n :: ns) = tv k z (n % count) :: drw k z base count ns := by unfold drw; rw [List.filter_cons, if_pos (by simpa using c)]; rfl
      refine ⟨y10, (forD_nx (v_nm _ _ _) ?_).trans (e.trans (by rw [ed]; simp))⟩
      generalize base - base % count = lim at e2 c
      generalize ((base % count : Nat) : Int) = q at e1 e2
      generalize ((n % count : Nat) : Int) = q2 at e3 tl
      generalize tv k z (n % count) = w at tl ⊢
      generalize Sh.d (.mk k []) = pd at tl ⊢
      have ls : lsO [O.lst found] (.ob 0) = some found := rfl
      simp [L_law_0, hc, hcp, e1, e2, e3, c, tl, ls, hfl]
    · obtain ⟨y10, e⟩ := due_loop hk z base count hz hc x0 x1 x4 x7 x8 x11 x12 x13 x14 ns found (some (.int (n : Int))) (by simp at hl ⊢; omega)
      have ed : drw k z base count (n :: ns) = drw k z base count ns := by unfold drw; rw [List.filter_cons, if_neg (by simpa using c)]
      refine ⟨y10, (forD_nx (v_nm _ _ _) ?_).trans (e.trans (by rw [ed]))⟩
      generalize base - base % count = lim at e2 c
      generalize ((base % count : Nat) : Int) = q at e1 e2
      simp [L_law_0, hc, hcp, e1, e2, c]
theorem sq_ex {f g : S} {δ δ' : Sl} {s s' : Sto} {d : D} (h : f δ s = .nx δ' s') (h2 : ∃ x, g δ' s' = .rt d x) : ∃ x, sSeq f g δ s = .rt d x := by
  obtain ⟨x, e⟩ := h2
  exact ⟨x, sq_nx h e⟩
theorem add_lst {A C : List D} (h : A.length + C.length ≤ sizeLine) : gAdd (.lst A) (.lst C) = some (.lst (A ++ C)) := by simp only [gAdd, h, if_true]
theorem toNat_mod (c : Int) {b : Nat} (hb : 0 < b) : c % (b : Int) = ((c % (b : Int)).toNat : Int) := by rw [Int.toNat_of_nonneg (Int.emod_nonneg _ (by omega))]
set_option maxHeartbeats 4000000 in
theorem law_true (ns : List Int) (hn : ns.length ≤ 63) : ∃ s', S_law [.lst (ns.map D.int)] [] = .ok (.bl true) s' := by
  obtain ⟨c0, v0⟩ := cell_val ns hn 0 []
  obtain ⟨c1, v1⟩ := cell_val ns hn 1 []
  obtain ⟨c2, v2⟩ := cell_val ns hn 2 []
  obtain ⟨c3, v3⟩ := cell_val ns hn 3 []
  obtain ⟨c4, v4⟩ := cell_val ns hn 4 []
  obtain ⟨nsd, hnsd⟩ : ∃ d, D.lst (ns.map D.int) = d := ⟨_, rfl⟩
  rw [hnsd] at v0 v1 v2 v3 v4
  simp at v0 v1 v2 v3 v4
  obtain ⟨low, hlow⟩ : ∃ low : Int, c1 % 1000000000000000000000000000000000000000000000000000000000000 - 5 * 100000000000000000000000000000000000000000000000000000000000 = low := ⟨_, rfl⟩
  have m5 : IntMulOk 5 100000000000000000000000000000000000000000000000000000000000 := mul_fitsL (by decide)
  have m48 : IntMulOk c2 48271 := mul_fitsR (by decide)
  have s1 : sSet 1 (eBin Gs.gSub (eBin gMod (eCall S_l_cell_at (aCons (eV 0) (aCons (eC (.int 1)) (aNil)))) (eBin gPow (eC (.int 10)) (eC (.int 60)))) (eBin gMul (eC (.int 5)) (eBin gPow (eC (.int 10)) (eC (.int 59))))) [some nsd, none, none, none, none, none, none, none, none, none, none, none, none, none, none] [] = .nx [some nsd, some (.int low), none, none, none, none, none, none, none, none, none, none, none, none, none] [] := by
    simp [v1, m5] at *
    simpa using hlow
  obtain ⟨hi, hhi⟩ : ∃ hi : Int, low + c2 * 48271 % 40009 = hi := ⟨_, rfl⟩
  -- the shape
  obtain ⟨m, hm⟩ : ∃ m : Nat, 1 + c2 % 62 = (m : Int) := ⟨(1 + c2 % 62).toNat, by omega⟩
  have hm1 : 0 < m ∧ m ≤ 62 := by omega
  obtain ⟨l, hl, vs⟩ := signs_val c1 m (by omega) []
  obtain ⟨k, hk, s3⟩ : ∃ k, simpleK k ∧ sIf (tV (eBin gEq (eBin gMod (eCall S_l_cell_at (aCons (eV 0) (aCons (eC (.int 0)) (aNil)))) (eC (.int 2))) (eC (.int 1)))) (sSet 2 (eTup (aCons (eC (.str (Str.ofString "text"))) (aCons (eCall S_l_signs (aCons (eCall S_l_cell_at (aCons (eV 0) (aCons (eC (.int 1)) (aNil)))) (aCons (eBin gAdd (eC (.int 1)) (eBin gMod (eCall S_l_cell_at (aCons (eV 0) (aCons (eC (.int 2)) (aNil)))) (eC (.int 62)))) (aNil)))) (aNil))))) (sNx)
      [some nsd, some (.int low), some (.tup [.str (Str.ofString "whole"), .int low, .int hi]), none, none, none, none, none, none, none, none, none, none, none, none] [] = .nx [some nsd, some (.int low), some (Sh.d (.mk k [])), none, none, none, none, none, none, none, none, none, none, none, none] [] := by
    by_cases c : c0 % 2 = 1
    · refine ⟨.text (St l), .inr ⟨l, rfl, by omega, by omega⟩, ?_⟩
      have ed : Sh.d (.mk (.text (St l)) []) = .tup [.str (Str.ofString "text"), .str (St l)] := rfl
      rw [ed]
      generalize St l = A at vs ⊢
      simp [v0, v1, v2, c, hm, vs]
    · refine ⟨.whole low hi, .inl ⟨_, _, rfl⟩, ?_⟩
      have ed : Sh.d (.mk (.whole low hi) []) = .tup [.str (Str.ofString "whole"), .int low, .int hi] := rfl
      rw [ed]
      simp [v0, c]
  have s2 : sSet 2 (eTup (aCons (eC (.str (Str.ofString "whole"))) (aCons (eV 1) (aCons (eBin gAdd (eV 1) (eBin gMod (eBin gMul (eCall S_l_cell_at (aCons (eV 0) (aCons (eC (.int 2)) (aNil)))) (eC (.int 48271))) (eC (.int 40009)))) (aNil))))) [some nsd, some (.int low), none, none, none, none, none, none, none, none, none, none, none, none, none] [] = .nx [some nsd, some (.int low), some (.tup [.str (Str.ofString "whole"), .int low, .int hi]), none, none, none, none, none, none, none, none, none, none, none, none] [] := by
    simp [v2, m48, hhi]
  obtain ⟨z, hz⟩ : ∃ z : Nat, c3 % 17 = (z : Int) := ⟨(c3 % 17).toNat, by omega⟩
  have hz16 : z ≤ 16 := by omega
  have fit := fit62 hk
  obtain ⟨count, hcount⟩ : ∃ c, tc bk62 (.mk k []) z = c := ⟨_, rfl⟩
  have sm := small62 hk hz16
  have v6 := count_val (bk := bk62) hk z (by omega) []
  rw [hcount] at sm v6
  have d3c : divOk (3 * (count : Int) + 2) := divOk_of (a := 8100) (by omega) (by
    have e : (3 * (count : Int) + 2).natAbs = 3 * count + 2 := by omega
    rw [e]
    have : 4 * 2 ^ 8000 ≤ 2 ^ 8100 := by
      rw [show (4 : Nat) = 2 ^ 2 from rfl, ← Nat.pow_add]
      exact Nat.pow_le_pow_right (by decide) (by decide)
    have h1 : 2 ^ 1 ≤ 2 ^ 8000 := Nat.pow_le_pow_right (by decide) (by decide)
    generalize 2 ^ 8000 = q at sm this h1
    generalize 2 ^ 8100 = q2 at this ⊢
    omega) (by decide)
  have pd : (0 : Int) < 3 * (count : Int) + 2 := by omega
  obtain ⟨base, hb, s8⟩ : ∃ base : Nat, 0 < base ∧ sIf (tV (eBin gNe (eBin gMod (eCall S_l_cell_at (aCons (eV 0) (aCons (eC (.int 4)) (aNil)))) (eC (.int 3))) (eC (.int 0)))) (sSet 6 (eBin gAdd (eC (.int 1)) (eBin gMod (eBin gDiv (eCall S_l_cell_at (aCons (eV 0) (aCons (eC (.int 4)) (aNil)))) (eC (.int 3))) (eBin gAdd (eBin gMul (eC (.int 3)) (eV 5)) (eC (.int 2)))))) (sNx)
      [some nsd, some (.int low), some (Sh.d (.mk k [])), some (.int (z : Int)), some (bookD bk62), some (.int (count : Int)), some (.int (1 + c4 % 10000000000000000000000000000000000000000000000000000000000000)), none, none, none, none, none, none, none, none] [] = .nx [some nsd, some (.int low), some (Sh.d (.mk k [])), some (.int (z : Int)), some (bookD bk62), some (.int (count : Int)), some (.int (base : Int)), none, none, none, none, none, none, none, none] [] := by
    by_cases c : c4 % 3 = 0
    · have q := Int.emod_nonneg c4 (show (10000000000000000000000000000000000000000000000000000000000000 : Int) ≠ 0 by decide)
      refine ⟨(1 + c4 % 10000000000000000000000000000000000000000000000000000000000000).toNat, by omega, ?_⟩
      rw [Int.toNat_of_nonneg (by omega)]
      simp [v4, c]
    · have q := Int.emod_nonneg (c4 / 3) (show (3 * (count : Int) + 2) ≠ 0 by omega)
      refine ⟨(1 + c4 / 3 % (3 * (count : Int) + 2)).toNat, by omega, ?_⟩
      rw [Int.toNat_of_nonneg (by omega)]
      have m3 : IntMulOk 3 (count : Int) := mul_fitsL (by decide)
      simp [v4, c, m3, pd]
  -- the numbers
  have hbp : (0 : Int) < (base : Int) := by omega
  obtain ⟨ms, hms, cut1⟩ : ∃ ms : List Int, ms.length ≤ 63 ∧ gSl nsd (some 5) (some 105) = some (.lst (ms.map D.int)) := by
    refine ⟨(ns.drop (HT.sIx (ns.map D.int).length 0 (some 5))).take (HT.sIx (ns.map D.int).length (ns.map D.int).length (some 105) - HT.sIx (ns.map D.int).length 0 (some 5)), ?_, ?_⟩
    · rw [List.length_take, List.length_drop]
      omega
    · rw [← hnsd]
      show some (D.lst (cutD (ns.map D.int) (some 5) (some 105))) = _
      unfold cutD
      rw [List.map_take, List.map_drop]
  obtain ⟨n2, hn2⟩ : ∃ n : Nat, c4 / 5 % 13 = (n : Int) := ⟨(c4 / 5 % 13).toNat, by omega⟩
  have hn12 : n2 ≤ 12 := by omega
  have lc1 : ∀ δ : Sl, δ[6]? = some (some (.int (base : Int))) → 14 < δ.length → lcD (.nm 13) tTrue (eBin gMod (eV 13) (eV 6)) δ (ms.map D.int) [] = .ok (nI (ms.map fun c => (c % (base : Int)).toNat)) [] := fun δ h6 hlen => by
    have e : nI (ms.map fun c => (c % (base : Int)).toNat) = ms.map fun c => .int (((c % (base : Int)).toNat : Nat) : Int) := by simp [nI]
    rw [e]
    refine lcD_mapL (g := D.int) (f := fun c => .int (((c % (base : Int)).toNat : Nat) : Int)) ms fun c _ => ⟨_, v_nm _ _ _, rfl, ?_⟩
    have g13 : (δ.set 13 (some (.int c)))[13]? = some (some (.int c)) := List.getElem?_set_self (by omega)
    have g6 : (δ.set 13 (some (.int c)))[6]? = some (some (.int (base : Int))) := by rw [List.getElem?_set_ne (by decide)]; exact h6
    rw [← toNat_mod c hb]
    simp [g13, g6, hb]
  have lc2 : ∀ δ : Sl, δ[6]? = some (some (.int (base : Int))) → δ[7]? = some (some (.int c4)) → 14 < δ.length → lcD (.nm 14) tTrue (eBin gMod (eBin gAdd (eV 7) (eBin gMul (eBin gMul (eC (.int 69621)) (eV 14)) (eV 14))) (eV 6)) δ (rngD 0 n2) [] = .ok (nI ((List.range n2).map fun (j : Nat) => ((c4 + 69621 * (j : Int) * (j : Int)) % (base : Int)).toNat)) [] := fun δ h6 h7 hlen => by
    have e : nI ((List.range n2).map fun (j : Nat) => ((c4 + 69621 * (j : Int) * (j : Int)) % (base : Int)).toNat) = (List.range n2).map fun (j : Nat) => .int ((((c4 + 69621 * (j : Int) * (j : Int)) % (base : Int)).toNat : Nat) : Int) := by simp [nI]
    rw [e]
    refine lcG _ n2 fun j hj => ?_
    have g14 : (δ.set 14 (some (.int (j : Int))))[14]? = some (some (.int (j : Int))) := List.getElem?_set_self hlen
    have g6 : (δ.set 14 (some (.int (j : Int))))[6]? = some (some (.int (base : Int))) := by rw [List.getElem?_set_ne (by decide)]; exact h6
    have g7 : (δ.set 14 (some (.int (j : Int))))[7]? = some (some (.int c4)) := by rw [List.getElem?_set_ne (by decide)]; exact h7
    have m1 : IntMulOk 69621 (j : Int) := mul_fitsL (by decide)
    have m2 : IntMulOk (69621 * (j : Int)) (j : Int) := mul_fitsR (by rw [Int.natAbs_natCast]; omega)
    rw [← toNat_mod _ hb]
    simp [g14, g6, g7, m1, m2, hb]
  obtain ⟨A, hA, hAl⟩ : ∃ A : List Nat, (ms.map fun c => (c % (base : Int)).toNat) = A ∧ A.length ≤ 63 := ⟨_, rfl, by simpa using hms⟩
  obtain ⟨A2, hA2, hA2l⟩ : ∃ A : List Nat, ((List.range n2).map fun (j : Nat) => ((c4 + 69621 * (j : Int) * (j : Int)) % (base : Int)).toNat) = A ∧ A.length ≤ 12 := ⟨_, rfl, by simpa using hn12⟩
  rw [hA] at lc1
  rw [hA2] at lc2
  have ad : gAdd (.lst (nI A)) (.lst (nI A2)) = some (.lst (nI (A ++ A2))) := by
    rw [add_lst (by rw [nI_len, nI_len]; exact sl_le (by omega))]
    simp [nI]
  obtain ⟨nums, hnums⟩ : ∃ n, A ++ A2 = n := ⟨_, rfl⟩
  have hnl : nums.length ≤ 75 := by rw [← hnums]; simp; omega
  rw [hnums] at ad
  have hAs : (nI A).length ≤ sizeLine := by rw [nI_len]; exact sl_le (by omega)
  have hA2s : (nI A2).length ≤ sizeLine := by rw [nI_len]; exact sl_le (by omega)
  have hr2 : rngOk (n2 : Int) := rngOk_nat (by omega)
  have d5 : divOk 5 := by simp
  have bkd : bookD bk62 = .lst [.tup [.str (Str.ofString "some"), .tup [.str (Str.ofString "text"), .str (Str.ofString "ab")]]] := rfl
  obtain ⟨sd, hsd⟩ : ∃ d, Sh.d (.mk k []) = d := ⟨_, rfl⟩
  obtain ⟨bd, hbd⟩ : ∃ d, bookD bk62 = d := ⟨_, rfl⟩
  rw [hsd] at s3 s8 v6
  rw [hbd] at s8 bkd
  have vv := value_val hk
  have dlp := due_loop hk z base count (by omega)
  have dv := fun s ns' h x3 h3 => drawn_val hk fit.good z base (show z ≤ 60 by omega) (by rw [hcount]; exact sm) ns' h s x3 h3
  rw [hcount, hsd, hbd] at dv
  rw [hsd] at dlp
  rw [hnsd]
  refine Exists.imp (fun s' h => runG_rt h) ?_
  refine sq_ex s1 ?_
  refine sq_ex s2 ?_
  refine sq_ex s3 ?_
  refine sq_ex (δ' := [some nsd, some (.int low), some sd, some (.int (z : Int)), none, none, none, none, none, none, none, none, none, none, none]) (s' := []) (by simp [v3, hz]) ?_
  refine sq_ex (δ' := [some nsd, some (.int low), some sd, some (.int (z : Int)), some bd, none, none, none, none, none, none, none, none, none, none]) (s' := []) (by rw [bkd]; simp) ?_
  refine sq_ex (δ' := [some nsd, some (.int low), some sd, some (.int (z : Int)), some bd, some (.int (count : Int)), none, none, none, none, none, none, none, none, none]) (s' := []) (by simp [v6]) ?_
  refine sq_ex (δ' := [some nsd, some (.int low), some sd, some (.int (z : Int)), some bd, some (.int (count : Int)), some (.int (1 + c4 % 10000000000000000000000000000000000000000000000000000000000000)), none, none, none, none, none, none, none, none]) (s' := []) (by simp [v4]) ?_
  refine sq_ex s8 ?_
  refine sq_ex (δ' := [some nsd, some (.int low), some sd, some (.int (z : Int)), some bd, some (.int (count : Int)), some (.int (base : Int)), some (.int c4), none, none, none, none, none, none, none]) (s' := []) (by simp [v4]) ?_
  refine sq_ex (δ' := [some nsd, some (.int low), some sd, some (.int (z : Int)), some bd, some (.int (count : Int)), some (.int (base : Int)), some (.int c4), some (.lst (nI A)), none, none, none, none, none, none]) (s' := []) (by
    have e := lc1 [some nsd, some (.int low), some sd, some (.int (z : Int)), some bd, some (.int (count : Int)), some (.int (base : Int)), some (.int c4), none, none, none, none, none, none, none] rfl (by simp)
    have cut1' : ∀ s, gSl (rsv s nsd) (some 5) (some 105) = some (.lst (ms.map D.int)) := fun s => by rw [← hnsd] at cut1 ⊢; exact cut1
    simp [cut1', wipeD, e, hAs]) ?_
  refine sq_ex (δ' := [some nsd, some (.int low), some sd, some (.int (z : Int)), some bd, some (.int (count : Int)), some (.int (base : Int)), some (.int c4), some (.lst (nI nums)), none, none, none, none, none, none]) (s' := []) (by
    have e := lc2 [some nsd, some (.int low), some sd, some (.int (z : Int)), some bd, some (.int (count : Int)), some (.int (base : Int)), some (.int c4), some (.lst (nI A)), none, none, none, none, none, none] rfl rfl (by simp)
    generalize nI A = a1 at ad e ⊢
    generalize nI A2 = a2 at ad e hA2s
    generalize nI nums = a3 at ad ⊢
    simp [hn2, hr2, wipeD, e, hA2s, -v_addL, ad]) ?_
  have R3 : ∀ (G : Sto) (xs : List D), rsv ([] ++ G) (.lst xs) = .lst xs := fun G xs => rfl
  by_cases hc0 : count = 0
  · obtain ⟨G1, q1, _⟩ := dv [] nums (by omega) (.lst (nI nums)) (fun G => rfl)
    have r1 := refused_val _ _ _ _ _ _ _ (q1 hc0)
    obtain ⟨G2, q2, _⟩ := dv ([] ++ G1) [] (by simp) (.lst (nI [])) (fun G => rfl)
    have r2 := refused_val _ _ _ _ _ _ _ (q2 hc0)
    have gl : gList [.lst (nI nums)] = some (.lst (nI nums)) := rfl
    have hz0 : 0 ≤ sizeLine := Nat.zero_le _
    have en : nI [] = [] := rfl
    rw [en] at r2
    refine ⟨[] ++ G1 ++ G2, ?_⟩
    have step : sIf (tV (eBin gEq (eV 5) (eC (.int 0)))) (sRet (eAn (eCall S_l_refused (aCons (eV 4) (aCons (eV 2) (aCons (eV 3) (aCons (eFn gList (aCons (eV 8) (aNil))) (aCons (eV 6) (aNil))))))) (eCall S_l_refused (aCons (eV 4) (aCons (eV 2) (aCons (eV 3) (aCons (eFz (fLst (aNil))) (aCons (eV 6) (aNil))))))))) (sNx)
        [some nsd, some (.int low), some sd, some (.int (z : Int)), some bd, some (.int (count : Int)), some (.int (base : Int)), some (.int c4), some (.lst (nI nums)), none, none, none, none, none, none] [] = .rt (.bl true) ([] ++ G1 ++ G2) := by
      subst hc0
      generalize [] ++ G1 ++ G2 = S2 at r2 ⊢
      generalize [] ++ G1 = S1 at r1 r2
      generalize nI nums = a3 at gl r1 ⊢
      simp [gl, r1, r2]
    simp only [v_sSeq, step]
  · have hcp : 0 < count := by omega
    have hne : ¬ (count : Int) = 0 := by omega
    refine sq_ex (δ' := [some nsd, some (.int low), some sd, some (.int (z : Int)), some bd, some (.int (count : Int)), some (.int (base : Int)), some (.int c4), some (.lst (nI nums)), none, none, none, none, none, none]) (s' := []) (by simp [hc0]) ?_
    refine sq_ex (δ' := [some nsd, some (.int low), some sd, some (.int (z : Int)), some bd, some (.int (count : Int)), some (.int (base : Int)), some (.int c4), some (.lst (nI nums)), some (.ob 0), none, none, none, none, none]) (s' := [.lst []]) (by simp) ?_
    obtain ⟨y10, dl⟩ := dlp hcp (some nsd) (some (.int low)) (some bd) (some (.int c4)) (some (.lst (nI nums))) none none none none nums [] none (by simp; omega)
    rw [List.nil_append] at dl
    refine sq_ex (by simp; exact dl) ?_
    obtain ⟨W, hW⟩ : ∃ W, drw k z base count nums = W := ⟨_, rfl⟩
    have hWv : ∀ x ∈ W, isV x := by rw [← hW]; exact drw_isV hk z base count nums
    have hWl : W.length ≤ 75 := by rw [← hW]; exact Nat.le_trans (drw_len _ _ _ _ _) hnl
    rw [hW]
    have av := alike_val W hWv (by omega)
    refine sq_ex (δ' := [some nsd, some (.int low), some sd, some (.int (z : Int)), some bd, some (.int (count : Int)), some (.int (base : Int)), some (.int c4), some (.lst (nI nums)), some (.ob 0), y10, some (.ob 1), none, none, none]) (s' := [.lst W, .lst (nI nums)]) (by
      generalize nI nums = a3
      simp) ?_
    obtain ⟨G1, _, q1⟩ := dv [.lst W, .lst (nI nums)] nums (by omega) (.ob 1) (fun G => r_ob rfl)
    have q1 := q1 hcp
    rw [hW] at q1
    have ap : ∀ {s g : Sto} {j : Nat} {o : O}, s[j]? = some o → (s ++ g)[j]? = some o := fun {s g j o} e => by
      have := (List.getElem?_eq_some_iff.mp e).1
      rw [List.getElem?_append_left this]
      exact e
    have last : ∀ (s : Sto) (o : O), (s ++ [o])[s.length]? = some o := fun s o => by simp
    obtain ⟨S1, hS1⟩ : ∃ S, ([.lst W, .lst (nI nums)] : Sto) ++ G1 = S := ⟨_, rfl⟩
    rw [hS1] at q1
    have p0 : S1[0]? = some (.lst W) := by rw [← hS1]; exact ap rfl
    have p1 : S1[1]? = some (.lst (nI nums)) := by rw [← hS1]; exact ap rfl
    obtain ⟨j, hj⟩ : ∃ j, S1.length = j := ⟨_, rfl⟩
    have hj2 : 2 ≤ j := by rw [← hj, ← hS1]; simp
    rw [hj] at q1
    obtain ⟨S2, hS2⟩ : ∃ S, S1 ++ [O.lst W] = S := ⟨_, rfl⟩
    rw [hS2] at q1
    have p20 : S2[0]? = some (.lst W) := by rw [← hS2]; exact ap p0
    have p21 : S2[1]? = some (.lst (nI nums)) := by rw [← hS2]; exact ap p1
    have p2j : S2[j]? = some (.lst W) := by rw [← hS2, ← hj]; exact last _ _
    have nself : ∀ ns' : List Nat, eqO (.lst (nI ns')) (.lst (nI ns')) = some true := fun ns' => eqO_self (k := 2) (eqk_lst (k := 1) fun x hx => by
      obtain ⟨c, _, rfl⟩ := List.mem_map.mp hx
      exact eqk_int _ _) (by decide)
    have th := fun s : Sto => thaw_val (s := s) (d := .bl true) rfl
    have hWs : W.length < sizeLine := Nat.lt_of_lt_of_le (show W.length < 1000 by omega) (by decide)
    have hNs : (nI nums).length < sizeLine := by rw [nI_len]; exact Nat.lt_of_lt_of_le (show nums.length < 1000 by omega) (by decide)
    have ns1 := nself nums
    have p31 : (S2.set j (.lst (W ++ [.int 0])))[1]? = some (.lst (nI nums)) := by rw [List.getElem?_set_ne (by omega)]; exact p21
    have p30 : (S2.set j (.lst (W ++ [.int 0])))[0]? = some (.lst W) := by rw [List.getElem?_set_ne (by omega)]; exact p20
    obtain ⟨S4, hS4⟩ : ∃ S, (S2.set j (.lst (W ++ [.int 0]))).set 1 (.lst (nI nums ++ [.int 0])) = S := ⟨_, rfl⟩
    have p40 : S4[0]? = some (.lst W) := by rw [← hS4, List.getElem?_set_ne (by decide)]; exact p30
    obtain ⟨G2, _, q2⟩ := dv S4 [] (by simp) (.lst (nI [])) (fun G => rfl)
    have q2 := q2 hcp
    have dnil : drw k z base count [] = [] := rfl
    rw [dnil] at q2
    obtain ⟨S5, hS5⟩ : ∃ S, S4 ++ G2 ++ [O.lst []] = S := ⟨_, rfl⟩
    obtain ⟨j5, hj5⟩ : ∃ j, (S4 ++ G2).length = j := ⟨_, rfl⟩
    have p50 : S5[0]? = some (.lst W) := by rw [← hS5]; exact ap (ap p40)
    have p5j : S5[j5]? = some (.lst []) := by rw [← hS5, ← hj5]; exact last _ _
    rw [hS5, hj5] at q2
    obtain ⟨G3, _, q3⟩ := dv S5 nums (by omega) (.lst (nI nums)) (fun G => rfl)
    have q3 := q3 hcp
    rw [hW] at q3
    obtain ⟨S6, hS6⟩ : ∃ S, S5 ++ G3 ++ [O.lst W] = S := ⟨_, rfl⟩
    obtain ⟨j6, hj6⟩ : ∃ j, (S5 ++ G3).length = j := ⟨_, rfl⟩
    have p60 : S6[0]? = some (.lst W) := by rw [← hS6]; exact ap (ap p50)
    have p6j : S6[j6]? = some (.lst W) := by rw [← hS6, ← hj6]; exact last _ _
    rw [hS6, hj6] at q3
    have k20 : lokD S2 (.ob 0) = .lst W := lok_ob p20
    have k2j : lokD S2 (.ob j) = .lst W := lok_ob p2j
    have k60 : lokD S6 (.ob 0) = .lst W := lok_ob p60
    have k6j : lokD S6 (.ob j6) = .lst W := lok_ob p6j
    have r21 := r_ob p21
    have r5 := r_ob p5j
    have ne0 : eqO (.lst []) (.lst []) = some true := nself []
    have en : nI [] = [] := rfl
    rw [en] at q2
    generalize nI nums = a3 at *
    refine sq_ex (δ' := [some nsd, some (.int low), some sd, some (.int (z : Int)), some bd, some (.int (count : Int)), some (.int (base : Int)), some (.int c4), some (.lst a3), some (.ob 0), y10, some (.ob 1), some (.ob j), none, none]) (s' := S2) (by simp [q1]) ?_
    refine sq_ex (δ' := [some nsd, some (.int low), some sd, some (.int (z : Int)), some bd, some (.int (count : Int)), some (.int (base : Int)), some (.int c4), some (.lst a3), some (.ob 0), y10, some (.ob 1), some (.ob j), none, none]) (s' := S2) (by simp [k20, k2j, av, th, r21, gNe, ns1]) ?_
    refine sq_ex (δ' := [some nsd, some (.int low), some sd, some (.int (z : Int)), some bd, some (.int (count : Int)), some (.int (base : Int)), some (.int c4), some (.lst a3), some (.ob 0), y10, some (.ob 1), some (.ob j), none, none]) (s' := S2.set j (.lst (W ++ [.int 0]))) (by simp [lsO_ob p2j, hWs]) ?_
    refine sq_ex (δ' := [some nsd, some (.int low), some sd, some (.int (z : Int)), some bd, some (.int (count : Int)), some (.int (base : Int)), some (.int c4), some (.lst a3), some (.ob 0), y10, some (.ob 1), some (.ob j), none, none]) (s' := S4) (by simp [lsO_ob p31, hNs, hS4]) ?_
    refine sq_ex (δ' := [some nsd, some (.int low), some sd, some (.int (z : Int)), some bd, some (.int (count : Int)), some (.int (base : Int)), some (.int c4), some (.lst a3), some (.ob 0), y10, some (.ob 1), some (.ob j), none, none]) (s' := S5) (by simp [q2, r5, gNe, ne0]) ?_
    exact ⟨S6, by simp [q3, k60, k6j, av, th]⟩
end Law

open PySem PySem.W
set_option maxRecDepth 100000 in
set_option maxHeartbeats 0 in
theorem PySem.Challenge.cw_countgen_k62_drawn_values_holds : PySem.Challenge.rw_countgen_k62_drawn_values.Holds := by
  w_on; o_law; k_head; (case hw => w_witness2)
  k_fill
  refine L2.walk_of (l := PySem.Challenge.rw_countgen_k62_drawn_values) (n := 63) (k := 29) (x := "_law_script") (CX := fun w => L2.CX (PySem.W.OpenLaw.prog PySem.Challenge.rw_countgen_k62_drawn_values) w) (sp := fun w => Gs.spL _ Law.S_law) rfl (by decide) rfl ⟨rfl, by decide, by decide⟩ (fun w h Y => PySem.W.kIn_of Y) ?F
    (fun w H a ns hl _ hS => Gs.law_sp hS (Law.law_true ns hl)) (fun _ _ _ _ _ h => Gs.law_cx h)
  case F =>
    intro w mg fa h KX G hmg
    refine' Law.all_mk KX G hmg ?c0 ?c1 ?c2 ?c3 ?c4 ?c5 ?c6 ?c7 ?c8 ?c9 ?c10 ?c11 ?c12 ?c13 ?c14 ?c15 ?c16 ?c17 ?c18 ?c19 ?c20 ?c21 ?c22 ?c23 ?c24 ?c25 ?c26 ?c27 ?c28 ?c29 ?c30 ?c31 ?c32 ?c33 ?c34 ?c35 ?c36 ?c37 ?c38 ?c39 ?c40 ?c41 ?c42 ?c43 ?c44 ?c45 ?c46 ?c47 ?c48 ?c49 ?c50 ?c51 ?c52 ?c53 ?c54 ?c55 ?c56 ?c57 ?c58 ?c59 ?c60 ?c61 ?c62 ?c63 ?c64 ?c65 ?c66 ?c67 ?c68 ?c69 ?c70 ?c71 ?c72 ?c73 ?c74 ?c75 ?c76 ?c77 ?c78 ?c79 ?c80 ?c81 ?c82 ?c83 ?c84 ?c85 ?c86 ?c87 ?c88 ?c89 ?c90 ?c91 ?c92 ?c93 ?c94 ?c95 ?c96 ?c97 ?c98 ?c99 ?c100 ?c101 ?c102 ?c103 ?c104 ?c105 ?c106 ?c107 ?c108 ?c109 ?c110 ?c111 ?c112 ?c113 ?c114 ?c115 ?c116 ?c117 ?c118 ?c119 ?c120 ?c121 ?c122 ?c123 ?c124 ?c125 ?c126 ?c127 ?c128 ?c129 ?c130 ?c131 ?c132 ?c133 ?c134 ?c135 ?c136 ?c137 ?c138 ?c139 ?c140 ?c141 ?c142 ?c143 ?c144 ?c145 ?c146 ?c147 ?c148 ?c149 ?c150 ?c151 ?c152 ?c153 ?c154 ?c155 ?c156 ?c157 ?c158 ?c159 ?c160 ?c161 ?c162 ?c163 ?c164 ?c165 ?c166 ?c167 ?c168 ?c169 ?c170 ?c171 ?c172 ?c173 ?c174 ?c175 ?c176 ?c177 ?c178 ?c179 ?c180 ?c181 ?c182 ?c183 ?c184 ?c185 ?c186 ?c187 ?c188 ?c189 ?c190 ?c191 ?c192 ?c193 ?c194 ?c195 ?c196 ?c197 ?c198 ?c199 ?c200 ?c201 ?c202 ?c203 ?c204 ?c205 ?c206 ?c207 ?c208 ?c209 ?c210 ?c211 ?c212 ?c213 ?c214 ?c215 ?c216 ?c217 ?c218 ?c219 ?c220 ?c221 ?c222 ?c223 ?c224 ?c225 ?c226 ?c227 ?c228 ?c229 ?c230 ?c231 ?c232 ?c233 ?c234 ?c235 ?c236 ?c237 ?c238 ?c239 ?c240 ?c241 ?c242 ?c243 ?c244 ?c245 ?c246 ?c247 ?c248 ?c249 ?c250 ?c251 ?c252 ?c253 ?c254 ?c255 ?c256 ?c257 ?c258 ?c259 ?c260 ?c261 ?c262 ?c263 ?c264 ?c265 ?c266 ?c267 ?c268 ?c269 ?c270 ?c271 ?c272 ?c273 ?c274 ?c275 ?c276 ?c277 ?c278 ?c279 ?c280 ?c281 ?c282 ?c283 ?c284 ?c285 ?c286 ?c287 ?c288 ?c289 ?c290 ?c291 ?c292 ?c293 ?c294 ?c295 ?c296 ?c297 ?c298 ?c299 ?c300 ?c301 ?c302 ?c303 ?c304 ?c305 ?c306 ?c307 ?c308 ?c309 ?c310 ?c311 ?c312 ?c313 ?c314 ?c315 ?c316 ?c317 ?c318 ?c319 ?c320 ?c321 ?c322 ?c323 ?c324 ?c325 ?c326 ?c327 ?c328 ?c329 ?c330 ?c331 ?c332 ?c333 ?c334 ?c335 ?c336 ?c337 ?c338 ?c339 ?c340 ?c341 ?c342 ?c343 ?c344 ?c345 ?c346 ?c347 ?c348 ?c349 ?c350 ?c351 ?c352 ?c353 ?c354 ?c355 ?c356 ?c357 ?c358 ?c359 ?c360 ?c361 ?c362 ?c363 ?c364 ?c365 ?c366 ?c367 ?c368 ?c369 ?c370 ?c371 ?c372 ?c373 ?c374 ?c375 ?c376 ?c377 ?c378 ?c379 ?c380 ?c381 ?c382 ?c383 ?c384 ?c385 ?c386 ?c387 ?c388 ?c389 ?c390 ?c391 ?c392 ?c393 ?c394 ?c395
    (case c185 => k_is); (case c186 => k_is); (case c187 => k_is); (case c188 => k_is); (case c194 => k_is); (case c195 => k_is); (case c196 => k_is); (case c197 => k_is); (case c198 => k_is); (case c199 => k_is); (case c200 => k_is); (case c201 => k_is); (case c202 => k_is); (case c203 => k_is); (case c204 => k_is); (case c246 => k_is); (case c249 => k_is); (case c252 => k_is); (case c255 => k_is); (case c258 => k_is); (case c261 => k_is); (case c264 => k_is); (case c267 => k_is); (case c270 => k_is); (case c273 => k_is); (case c310 => k_is); (case c311 => k_is); (case c312 => k_is); (case c313 => k_is); (case c314 => k_is); (case c315 => k_is); (case c316 => k_is); (case c317 => k_is); (case c318 => k_is); (case c319 => k_is); (case c320 => k_is); (case c321 => k_is); (case c322 => k_is); (case c323 => k_is); (case c324 => k_is); (case c325 => k_is); (case c326 => k_is); (case c327 => k_is); (case c328 => k_is); (case c329 => k_is); (case c330 => k_is); (case c331 => k_is); (case c332 => k_is); (case c333 => k_is); (case c334 => k_is); (case c335 => k_is); (case c336 => k_is); (case c337 => k_is); (case c338 => k_is); (case c339 => k_is); (case c340 => k_is); (case c341 => k_is); (case c342 => k_is); (case c343 => k_is); (case c344 => k_is); (case c345 => k_is); (case c346 => k_is); (case c347 => k_is); (case c380 => k_is); (case c0 => k_is); (case c1 => k_is); (case c2 => k_is); (case c3 => k_is); (case c4 => k_is); (case c5 => k_is); (case c6 => k_is); (case c7 => k_is); (case c8 => k_is); (case c9 => k_is); (case c10 => k_is); (case c11 => k_is); (case c12 => k_is); (case c13 => k_is); (case c14 => k_is); (case c15 => k_is); (case c16 => k_is); (case c17 => k_is); (case c18 => k_is); (case c19 => k_is); (case c20 => k_is); (case c21 => k_is); (case c22 => k_is); (case c23 => k_is); (case c24 => k_is); (case c25 => k_is); (case c26 => k_is); (case c27 => k_is); (case c28 => k_is); (case c29 => k_is); (case c30 => k_is); (case c31 => k_is); (case c32 => k_is); (case c33 => k_is); (case c34 => k_is); (case c35 => k_is); (case c36 => k_is); (case c37 => k_is); (case c38 => k_is); (case c39 => k_is); (case c40 => k_is); (case c41 => k_is); (case c42 => k_is); (case c43 => k_is); (case c44 => k_is); (case c45 => k_is); (case c46 => k_is); (case c47 => k_is); (case c48 => k_is); (case c49 => k_is); (case c50 => k_is); (case c51 => k_is); (case c52 => k_is); (case c53 => k_is); (case c54 => k_is); (case c55 => k_is); (case c56 => k_is); (case c57 => k_is); (case c58 => k_is); (case c59 => k_is); (case c60 => k_is); (case c61 => k_is); (case c62 => k_is); (case c63 => k_is); (case c64 => k_is); (case c65 => k_is); (case c66 => k_is); (case c67 => k_is); (case c68 => k_is); (case c69 => k_is); (case c70 => k_is); (case c71 => k_is); (case c72 => k_is); (case c73 => k_is); (case c74 => k_is); (case c75 => k_is); (case c76 => k_is); (case c77 => k_is); (case c78 => k_is); (case c79 => k_is); (case c80 => k_is); (case c81 => k_is); (case c82 => k_is); (case c83 => k_is); (case c84 => k_is); (case c85 => k_is); (case c86 => k_is); (case c87 => k_is); (case c88 => k_is); (case c89 => k_is); (case c90 => k_is); (case c91 => k_is); (case c92 => k_is); (case c93 => k_is); (case c94 => k_is); (case c95 => k_is); (case c96 => k_is); (case c97 => k_is); (case c98 => k_is); (case c99 => k_is); (case c100 => k_is); (case c101 => k_is); (case c102 => k_is); (case c103 => k_is); (case c104 => k_is); (case c105 => k_is); (case c106 => k_is); (case c107 => k_is); (case c108 => k_is); (case c109 => k_is); (case c110 => k_is); (case c111 => k_is); (case c112 => k_is); (case c113 => k_is); (case c114 => k_is); (case c115 => k_is); (case c116 => k_is); (case c117 => k_is); (case c118 => k_is); (case c119 => k_is); (case c120 => k_is); (case c121 => k_is); (case c122 => k_is); (case c123 => k_is); (case c124 => k_is); (case c125 => k_is); (case c126 => k_is); (case c127 => k_is); (case c128 => k_is); (case c129 => k_is); (case c130 => k_is); (case c131 => k_is); (case c132 => k_is); (case c133 => k_is); (case c134 => k_is); (case c135 => k_is); (case c136 => k_is); (case c137 => k_is); (case c138 => k_is); (case c139 => k_is); (case c140 => k_is); (case c141 => k_is); (case c142 => k_is); (case c143 => k_is); (case c144 => k_is); (case c145 => k_is); (case c146 => k_is); (case c147 => k_is); (case c148 => k_is); (case c149 => k_is); (case c150 => k_is); (case c151 => k_is); (case c152 => k_is); (case c153 => k_is); (case c154 => k_is); (case c155 => k_is); (case c156 => k_is); (case c157 => k_is); (case c158 => k_is); (case c159 => k_is); (case c160 => k_is); (case c161 => k_is); (case c162 => k_is); (case c163 => k_is); (case c164 => k_is); (case c165 => k_is); (case c166 => k_is); (case c167 => k_is); (case c168 => k_is); (case c169 => k_is); (case c170 => k_is); (case c171 => k_is); (case c172 => k_is); (case c173 => k_is); (case c174 => k_is); (case c175 => k_is); (case c176 => k_is); (case c177 => k_is); (case c178 => k_is); (case c179 => k_is); (case c180 => k_is); (case c181 => k_is); (case c182 => k_is); (case c183 => k_is); (case c184 => k_is); (case c189 => k_is); (case c190 => k_exc); (case c191 => k_is); (case c192 => k_is); (case c193 => k_is); (case c205 => k_is); (case c206 => k_is); (case c207 => k_is); (case c208 => k_is); (case c209 => k_is); (case c210 => k_is); (case c211 => k_is); (case c212 => k_is); (case c213 => k_is); (case c214 => k_is); (case c215 => k_is); (case c216 => k_is); (case c217 => k_is); (case c218 => k_is); (case c219 => k_is); (case c220 => k_is); (case c221 => k_is); (case c222 => k_is); (case c223 => k_is); (case c224 => k_is); (case c225 => k_is); (case c226 => k_is); (case c227 => k_is); (case c228 => k_is); (case c229 => k_is); (case c230 => k_is); (case c231 => k_is); (case c232 => k_is); (case c233 => k_is); (case c234 => k_is); (case c235 => k_is); (case c236 => k_is); (case c237 => k_is); (case c238 => k_is); (case c239 => k_is); (case c240 => k_is); (case c241 => k_is); (case c242 => k_is); (case c243 => k_is); (case c244 => k_is); (case c245 => k_is); (case c247 => k_is); (case c248 => k_is); (case c250 => k_is); (case c251 => k_is); (case c253 => k_is); (case c254 => k_is); (case c256 => k_is); (case c257 => k_is); (case c259 => k_is); (case c260 => k_is); (case c262 => k_is); (case c263 => k_is); (case c265 => k_is); (case c266 => k_is); (case c268 => k_is); (case c269 => k_is); (case c271 => k_is); (case c272 => k_is); (case c274 => k_is); (case c275 => k_is); (case c276 => k_is); (case c277 => k_is); (case c278 => k_is); (case c279 => k_is); (case c280 => k_is); (case c281 => k_is); (case c282 => k_is); (case c283 => k_is); (case c284 => k_is); (case c285 => k_is); (case c286 => k_is); (case c287 => k_is); (case c288 => k_is); (case c289 => k_is); (case c290 => k_is); (case c291 => k_is); (case c292 => k_is); (case c293 => k_is); (case c294 => k_is); (case c295 => k_is); (case c296 => k_is); (case c297 => k_is); (case c298 => k_is); (case c299 => k_is); (case c300 => k_is); (case c301 => k_is); (case c302 => k_is); (case c303 => k_is); (case c304 => k_is); (case c305 => k_is); (case c306 => k_is); (case c307 => k_is); (case c308 => k_is); (case c309 => k_is); (case c348 => k_is); (case c349 => k_is); (case c350 => k_is); (case c351 => k_is); (case c352 => k_is); (case c353 => k_is); (case c354 => k_is); (case c355 => k_is); (case c356 => k_is); (case c357 => k_is); (case c358 => k_is); (case c359 => k_is); (case c360 => k_is); (case c361 => k_is); (case c362 => k_is); (case c363 => k_is); (case c364 => k_is); (case c365 => k_is); (case c366 => k_is); (case c367 => k_is); (case c368 => k_is); (case c369 => k_is); (case c370 => k_is); (case c371 => k_is); (case c372 => k_is); (case c373 => k_is); (case c374 => k_is); (case c375 => k_is); (case c376 => k_is); (case c377 => k_is); (case c378 => k_is); (case c379 => k_is); (case c381 => k_is); (case c382 => k_is); (case c383 => k_is); (case c384 => k_is); (case c385 => first | rfl | k_is); (case c386 => first | rfl | k_is); (case c387 => first | rfl | k_is); (case c388 => first | rfl | k_is); (case c389 => first | rfl | k_is); (case c390 => first | rfl | k_is); (case c391 => first | rfl | k_is); (case c392 => first | rfl | k_is); (case c393 => k_is); (case c394 => k_is); (case c395 => first | rfl | k_is)
