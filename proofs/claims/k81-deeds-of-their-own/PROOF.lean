import PyProof.Rows.All
import HandS.ForMost
import HandS.ForExc
import HandS.WideBits
import HandS.Wide
import HandS.Nested
import HandS.NestedK
import HandS.TupAny
import HandS.Conv
import PyProof.ListStr
import HandS.IsInst
import HandS.Style
import HandS.RevRange
import HandS.Codes
import HandS.Zip
import HandS.ExcValue
import HandS.HotCalls
import HandS.ExcIs
import HandS.Iter
import HandS.Dict
import HandS.More
import HandS.ExcInit
import HandS.ExcField
import KE.KExcIs
import HandS.TryElse
import HandS.EndTab
import HandS.Defaults
import HandS.CallSlots
import HandS.SortKw
import KE.DataMinMax
import PySem.Challenge.RW_countgen_k81_deeds_of_their_own
set_option Elab.async false
set_option linter.all false
set_option maxRecDepth 100000
set_option autoImplicit false
/-! G1: data and a store of things that change; what stands for them in a heap; a step; a frame. -/
namespace Gs
open PySem L2

/-- the words of a def within a def: the def, its name, its long name, what it captures -/
structure Clo where
  st : Stmt
  name : Str
  qual : Str
  fr : List Str
inductive D where
  | non | bl (b : Bool) | int (i : Int) | str (x : Str) | tup (xs : List D) | lst (xs : List D) | dct (ks : List Key) (ds : List D)
  | ob (i : Nat) | fn (s : String) | ev (c : String) (ks : List Str) (ds : List D) | clo (k : Clo) (ds : List D)
instance : Inhabited D := ⟨.non⟩
/-- tab: the table of the code objects of the defs within a def; fK: a dict that is read alone from here on -/
inductive O where
  | lst (xs : List D) | dK (kvs : List (Key × D)) | dT (kvs : List (List Key × D)) | ins (c : String) (fs : List (Str × D)) | tab (x : String) (nm : Nat → Nat → Str) | fK (kvs : List (Key × D)) | gone
instance : Inhabited O := ⟨.gone⟩
abbrev Sto := List O
def O.live : O → Bool
  | .gone => false
  | .fK _ => false
  | _ => true
/-- an exception's object, of the class cls, with the own dict d -/
def EvO (cls : Value) (d : Option Addr) (a : Addr) : HO := .ext fun h => ∃ (oe : Obj) (vs : Array Value), h.get? a = some oe ∧ Zc cls d oe ∧ oe.data = .fields vs

/-- a cell that holds v -/
def CellO (c : Addr) (v : V) : HO := .ext fun h => ∃ u, RelV v u ∧ h.IsCell c (some u)
/-- G without these -/
def minus (G : Hp) (as : List Addr) : Hp := fun b => if b ∈ as then none else G b
/-- the cells of what a def within a def captures -/
structure CellsG (G : Hp) (cl : List (Str × Addr)) (fr : List Str) (vs : List V) : Prop where
  len : vs.length = fr.length
  inj : ∀ x y c, cl.lookup x = some c → cl.lookup y = some c → x = y
  all : ∀ y c, cl.lookup y = some c → y ∈ fr
  has : ∀ (i : Nat) (y : Str), fr[i]? = some y → ∃ c v, cl.lookup y = some c ∧ vs[i]? = some v ∧ ∃ o, G c = some (.frz o (CellO c v))
abbrev cads (cl : List (Str × Addr)) (fr : List Str) : List Addr := fr.filterMap fun y => cl.lookup y
mutual
inductive Rep (K : PySem.W.Frag) (ct : String → Addr) : Hp → (Nat → Option Addr) → D → V → Prop
  | non {G : Hp} {m : Nat → Option Addr} : Rep K ct G m .non .non
  | bl {G : Hp} {m : Nat → Option Addr} (b : Bool) : Rep K ct G m (.bl b) (.bl b)
  | int {G : Hp} {m : Nat → Option Addr} (i : Int) : Rep K ct G m (.int i) (.int i)
  | str {G : Hp} {m : Nat → Option Addr} (x : Str) : Rep K ct G m (.str x) (.str x)
  | fn {G : Hp} {m : Nat → Option Addr} (s : String) : Rep K ct G m (.fn s) (.ref (ct s))
  | ob {G : Hp} {m : Nat → Option Addr} {i : Nat} {a : Addr} : m i = some a → Rep K ct G m (.ob i) (.ref a)
  | clo {G : Hp} {m : Nat → Option Addr} {f : Addr} {F : NdefX.NF} {k : Clo} {vs : List V} {ds : List D} : G f = some (NdefX.FnO f F) → G F.c = some (LamX.CodeO F.c F.qual) → F = NdefX.NF.of k.st k.name k.qual F.cl F.c → CellsG G F.cl k.fr vs → RepL K ct (minus G (cads F.cl k.fr)) m ds vs → Rep K ct G m (.clo k ds) (.ref f)
  | tup {G : Hp} {m : Nat → Option Addr} {a : Addr} {vs : List V} {ds : List D} : SqT K G a vs → RepL K ct G m ds vs → Rep K ct G m (.tup ds) (.ref a)
  | lst {G : Hp} {m : Nat → Option Addr} {a : Addr} {vs : List V} {ds : List D} : SqL K G a vs → RepL K ct G m ds vs → Rep K ct G m (.lst ds) (.ref a)
  | dct {G : Hp} {m : Nat → Option Addr} {a : Addr} {vs : List V} {ks : List Key} {ds : List D} : G a = some (.dK (ks.zip vs)) → ks.length = ds.length → RepL K ct G m ds vs → Rep K ct G m (.dct ks ds) (.ref a)
  | ev0 {G : Hp} {m : Nat → Option Addr} {a : Addr} {c : String} : G a = some (EvO (.ref (ct c)) none a) → Rep K ct G m (.ev c [] []) (.ref a)
  | ev {G : Hp} {m : Nat → Option Addr} {a d : Addr} {vs : List V} {c : String} {ks : List Str} {ds : List D} : ks ≠ [] → G a = some (EvO (.ref (ct c)) (some d) a) → G d = some (.xd (ks.zip vs)) → ks.length = ds.length → RepL K ct G m ds vs → Rep K ct G m (.ev c ks ds) (.ref a)
inductive RepL (K : PySem.W.Frag) (ct : String → Addr) : Hp → (Nat → Option Addr) → List D → List V → Prop
  | nil {G : Hp} {m : Nat → Option Addr} : RepL K ct G m [] []
  | cons {G : Hp} {m : Nat → Option Addr} {d : D} {v : V} {ds : List D} {vs : List V} : Rep K ct G m d v → RepL K ct G m ds vs → RepL K ct G m (d :: ds) (v :: vs)
end

def Grow (m m' : Nat → Option Addr) : Prop := ∀ i a, m i = some a → m' i = some a
theorem Grow.refl {m : Nat → Option Addr} : Grow m m := fun _ _ h => h
theorem Grow.trans {m m1 m2 : Nat → Option Addr} (a : Grow m m1) (b : Grow m1 m2) : Grow m m2 := fun i x h => b i x (a i x h)

theorem rd_mono {G G' : Hp} {a : Addr} {u : HO} (e : Same G G') (h : Rd G a u) : Rd G' a u := by
  rcases h with h | ⟨o, h⟩
  · exact .inl (e _ _ h)
  · exact .inr ⟨o, e _ _ h⟩
theorem sqt_mono {K : PySem.W.Frag} {G G' : Hp} {a : Addr} {xs : List V} (e : Same G G') (h : SqT K G a xs) : SqT K G' a xs := by
  rcases h with h | h
  · exact .inl (rd_mono e h)
  · exact .inr h
section
variable {K : PySem.W.Frag} {ct : String → Addr} {G G' : Hp} {m m' : Nat → Option Addr}
theorem minus_mono {G G' : Hp} (e : Same G G') (as : List Addr) : Same (minus G as) (minus G' as) := fun b o h => by
  unfold minus at *
  split at h
  · exact nomatch h
  · rename_i z
    rw [if_neg z]
    exact e _ _ h
theorem CellsG.mono {G G' : Hp} {cl : List (Str × Addr)} {fr : List Str} {vs : List V} (e : Same G G') (c : CellsG G cl fr vs) : CellsG G' cl fr vs := ⟨c.len, c.inj, c.all, fun i y h => by
  obtain ⟨a, v, h1, h2, o, h3⟩ := c.has i y h
  exact ⟨a, v, h1, h2, o, e _ _ h3⟩⟩
mutual
theorem Rep.mono' : ∀ {G G' : Hp} {m m' : Nat → Option Addr} {d : D} {v : V}, Same G G' → Grow m m' → Rep K ct G m d v → Rep K ct G' m' d v
  | _, _, _, _, _, _, _, _, .non => .non
  | _, _, _, _, _, _, _, _, .bl b => .bl b
  | _, _, _, _, _, _, _, _, .int i => .int i
  | _, _, _, _, _, _, _, _, .str x => .str x
  | _, _, _, _, _, _, _, _, .fn a => .fn a
  | _, _, _, _, _, _, _, g, .ob h => .ob (g _ _ h)
  | _, _, _, _, _, _, e, g, .clo h1 h2 h3 h4 r => .clo (e _ _ h1) (e _ _ h2) h3 (h4.mono e) (RepL.mono' (minus_mono e _) g r)
  | _, _, _, _, _, _, e, g, .tup h r => .tup (sqt_mono e h) (RepL.mono' e g r)
  | _, _, _, _, _, _, e, g, .lst h r => .lst (e.seq h) (RepL.mono' e g r)
  | _, _, _, _, _, _, e, g, .dct h l r => .dct (e _ _ h) l (RepL.mono' e g r)
  | _, _, _, _, _, _, e, g, .ev0 h => .ev0 (e _ _ h)
  | _, _, _, _, _, _, e, g, .ev n h h2 l r => .ev n (e _ _ h) (e _ _ h2) l (RepL.mono' e g r)
theorem RepL.mono' : ∀ {G G' : Hp} {m m' : Nat → Option Addr} {ds : List D} {vs : List V}, Same G G' → Grow m m' → RepL K ct G m ds vs → RepL K ct G' m' ds vs
  | _, _, _, _, _, _, _, _, .nil => .nil
  | _, _, _, _, _, _, e, g, .cons h r => .cons (Rep.mono' e g h) (RepL.mono' e g r)
end
theorem Rep.mono (e : Same G G') (g : Grow m m') {d : D} {v : V} (h : Rep K ct G m d v) : Rep K ct G' m' d v := Rep.mono' e g h
theorem RepL.mono (e : Same G G') (g : Grow m m') {ds : List D} {vs : List V} (h : RepL K ct G m ds vs) : RepL K ct G' m' ds vs := RepL.mono' e g h
theorem RepL.length : ∀ {ds : List D} {vs : List V}, RepL K ct G m ds vs → ds.length = vs.length
  | _, _, .nil => rfl
  | _, _, .cons _ r => by simp [RepL.length r]
theorem RepL.get : ∀ {ds : List D} {vs : List V} {i : Nat} {d : D}, RepL K ct G m ds vs → ds[i]? = some d → ∃ v, vs[i]? = some v ∧ Rep K ct G m d v
  | _, _, 0, _, .cons h _, e => by simp at e; subst e; exact ⟨_, rfl, h⟩
  | _, _, i + 1, d, .cons _ r, e => by
    obtain ⟨v, h1, h2⟩ := RepL.get (i := i) (d := d) r (by simpa using e)
    exact ⟨v, by simpa using h1, h2⟩
theorem RepL.append : ∀ {ds es : List D} {vs us : List V}, RepL K ct G m ds vs → RepL K ct G m es us → RepL K ct G m (ds ++ es) (vs ++ us)
  | _, _, _, _, .nil, s => s
  | _, _, _, _, .cons h r, s => .cons h (RepL.append r s)
theorem RepL.one {d : D} {v : V} (h : Rep K ct G m d v) : RepL K ct G m [d] [v] := .cons h .nil
theorem RepL.set : ∀ {ds : List D} {vs : List V} {d : D} {v : V} (i : Nat), RepL K ct G m ds vs → Rep K ct G m d v → RepL K ct G m (ds.set i d) (vs.set i v)
  | _, _, _, _, _, .nil, _ => .nil
  | _, _, _, _, 0, .cons _ r, h => .cons h r
  | _, _, _, _, i + 1, .cons q r, h => .cons q (RepL.set i r h)
theorem RepL.take : ∀ {ds : List D} {vs : List V} (n : Nat), RepL K ct G m ds vs → RepL K ct G m (ds.take n) (vs.take n)
  | _, _, 0, _ => .nil
  | _, _, _ + 1, .nil => .nil
  | _, _, n + 1, .cons h r => .cons h (RepL.take n r)
theorem RepL.drop : ∀ {ds : List D} {vs : List V} (n : Nat), RepL K ct G m ds vs → RepL K ct G m (ds.drop n) (vs.drop n)
  | _, _, 0, r => r
  | _, _, _ + 1, .nil => .nil
  | _, _, n + 1, .cons _ r => RepL.drop n r
theorem RepL.reverse : ∀ {ds : List D} {vs : List V}, RepL K ct G m ds vs → RepL K ct G m ds.reverse vs.reverse
  | _, _, .nil => .nil
  | _, _, .cons h r => by
    rw [List.reverse_cons, List.reverse_cons]
    exact RepL.append (RepL.reverse r) (RepL.one h)
theorem RepL.erase : ∀ {ds : List D} {vs : List V} (i : Nat), RepL K ct G m ds vs → RepL K ct G m (ds.eraseIdx i) (vs.eraseIdx i)
  | _, _, _, .nil => .nil
  | _, _, 0, .cons _ r => r
  | _, _, i + 1, .cons q r => .cons q (RepL.erase i r)
theorem RepL.insert : ∀ {ds : List D} {vs : List V} {d : D} {v : V} (i : Nat), RepL K ct G m ds vs → Rep K ct G m d v → RepL K ct G m (ds.take i ++ d :: ds.drop i) (vs.take i ++ v :: vs.drop i) := fun i r h =>
  (r.take i).append (.cons h (r.drop i))
theorem RepL.ints : ∀ ns : List Int, RepL K ct G m (ns.map D.int) (ns.map V.int)
  | [] => .nil
  | n :: r => .cons (.int n) (RepL.ints r)
theorem RepL.of_ints : ∀ {ns : List Int} {vs : List V}, RepL K ct G m (ns.map D.int) vs → vs = ns.map V.int
  | [], _, h => by cases h; rfl
  | n :: ns, vs, h => by
    change RepL K ct G m (D.int n :: ns.map D.int) vs at h
    cases h with
    | cons a r =>
      cases a
      rw [RepL.of_ints r]
      rfl
theorem RepL.of_bls : ∀ {bs : List Bool} {vs : List V}, RepL K ct G m (bs.map D.bl) vs → vs = bs.map V.bl
  | [], _, h => by cases h; rfl
  | n :: ns, vs, h => by
    change RepL K ct G m (D.bl n :: ns.map D.bl) vs at h
    cases h with
    | cons a r =>
      cases a
      rw [RepL.of_bls r]
      rfl
theorem RepL.of_strs : ∀ {bs : List Str} {vs : List V}, RepL K ct G m (bs.map D.str) vs → vs = bs.map V.str
  | [], _, h => by cases h; rfl
  | n :: ns, vs, h => by
    change RepL K ct G m (D.str n :: ns.map D.str) vs at h
    cases h with
    | cons a r =>
      cases a
      rw [RepL.of_strs r]
      rfl
end
/-- pairs of a key and a thing -/
inductive RepP {κ : Type} (K : PySem.W.Frag) (ct : String → Addr) (G : Hp) (m : Nat → Option Addr) : List (κ × D) → List (κ × V) → Prop
  | nil : RepP K ct G m [] []
  | cons {x : κ} {d : D} {v : V} {ds : List (κ × D)} {vs : List (κ × V)} : Rep K ct G m d v → RepP K ct G m ds vs → RepP K ct G m ((x, d) :: ds) ((x, v) :: vs)
section
variable {κ : Type} {K : PySem.W.Frag} {ct : String → Addr} {G G' : Hp} {m m' : Nat → Option Addr}
theorem RepP.mono (e : Same G G') (g : Grow m m') {ds : List (κ × D)} {vs : List (κ × V)} (r : RepP K ct G m ds vs) : RepP K ct G' m' ds vs := by
  induction r with
  | nil => exact .nil
  | cons h _ ih => exact .cons (h.mono e g) ih
theorem RepP.length {ds : List (κ × D)} {vs : List (κ × V)} (r : RepP K ct G m ds vs) : ds.length = vs.length := by
  induction r with
  | nil => rfl
  | cons h _ ih => simp [ih]
theorem RepP.keys {ds : List (κ × D)} {vs : List (κ × V)} (r : RepP K ct G m ds vs) : ds.map (·.1) = vs.map (·.1) := by
  induction r with
  | nil => rfl
  | cons h _ ih => simp [ih]
theorem RepP.vals {ds : List (κ × D)} {vs : List (κ × V)} (r : RepP K ct G m ds vs) : RepL K ct G m (ds.map (·.2)) (vs.map (·.2)) := by
  induction r with
  | nil => exact .nil
  | cons h _ ih => exact .cons h ih
theorem RepP.zip : ∀ {ks : List κ} {ds : List D} {vs : List V}, RepL K ct G m ds vs → RepP K ct G m (ks.zip ds) (ks.zip vs)
  | [], _, _, _ => .nil
  | _ :: _, _, _, .nil => .nil
  | _ :: _, _, _, .cons h r => .cons h (RepP.zip r)
theorem RepP.append {ds es : List (κ × D)} {vs us : List (κ × V)} (r : RepP K ct G m ds vs) (s : RepP K ct G m es us) : RepP K ct G m (ds ++ es) (vs ++ us) := by
  induction r with
  | nil => exact s
  | cons h _ ih => exact .cons h ih
theorem RepP.lookup [BEq κ] {ds : List (κ × D)} {vs : List (κ × V)} {x : κ} (r : RepP K ct G m ds vs) : (ds.lookup x = none ∧ vs.lookup x = none) ∨ ∃ d v, ds.lookup x = some d ∧ vs.lookup x = some v ∧ Rep K ct G m d v := by
  induction r with
  | nil => exact .inl ⟨rfl, rfl⟩
  | @cons y d v ds vs h _ ih =>
    simp only [List.lookup_cons]
    cases e : x == y with
    | true => exact .inr ⟨d, v, rfl, rfl, h⟩
    | false => exact ih
end

/-- the frozen heap, the whole heap, where the things of the store stand, the store -/
structure Vw where
  G : Hp
  H : Hp
  m : Nat → Option Addr
  st : Sto
/-- b belongs to a thing of the store -/
def Vw.owns (v : Vw) (b : Addr) : Prop := ∃ (i : Nat) (o : O) (a : Addr), v.st[i]? = some o ∧ o.live = true ∧ v.m i = some a ∧ (b = a ∨ ∃ C fs, v.H a = some (.ins C b fs))
def ORep (K : PySem.W.Frag) (ct : String → Addr) (v : Vw) (a : Addr) : O → Prop
  | .lst xs => ∃ vs, v.H a = some (.lst vs) ∧ RepL K ct v.G v.m xs vs
  | .dK kvs => ∃ vs, v.H a = some (.dK vs) ∧ RepP K ct v.G v.m kvs vs
  | .dT kvs => ∃ vs, v.H a = some (.dT vs) ∧ RepP K ct v.G v.m kvs vs
  | .ins c fs => ∃ dx vs, v.H a = some (.ins (ct c) dx vs) ∧ v.H dx = some (.own a) ∧ v.G dx = none ∧ RepP K ct v.G v.m fs vs
  | .tab x nm => a = ct x ∧ ∃ ps, v.H a = some (.tbl ps) ∧ PySem.TriplesOk ps.toList ∧ ∀ (pos : Pos) (cv : Value), codeAmong pos ps.toList = some cv → ∃ c, cv = .ref c ∧ v.G c = some (LamX.CodeO c (nm pos.line pos.col))
  | .fK _ => False
  | .gone => True
/-- the dict that is read alone, at i -/
def FkR (K : PySem.W.Frag) (ct : String → Addr) (v : Vw) (i : Nat) (kvs : List (Key × D)) : Prop := ∃ a ob vs, v.m i = some a ∧ v.G a = some (.frz ob (.dK vs)) ∧ RepP K ct v.G v.m kvs vs
theorem FkR.mono {K : PySem.W.Frag} {ct : String → Addr} {v v' : Vw} {i : Nat} {kvs : List (Key × D)} (g : Same v.G v'.G) (m : Grow v.m v'.m) (r : FkR K ct v i kvs) : FkR K ct v' i kvs := by
  obtain ⟨a, ob, vs, h1, h2, h3⟩ := r
  exact ⟨a, ob, vs, m _ _ h1, g _ _ h2, h3.mono g m⟩
structure SR (K : PySem.W.Frag) (ct : String → Addr) (v : Vw) : Prop where
  sub : Same v.G v.H
  dom : ∀ i, v.st.length ≤ i → v.m i = none
  obj : ∀ (i : Nat) (o : O), v.st[i]? = some o → o.live = true → ∃ a, v.m i = some a ∧ v.G a = none ∧ ORep K ct v a o
  inj : ∀ (i j : Nat) (o u : O) (a : Addr), v.st[i]? = some o → v.st[j]? = some u → o.live = true → u.live = true → v.m i = some a → v.m j = some a → i = j
  fk : ∀ (i : Nat) (kvs : List (Key × D)), v.st[i]? = some (.fK kvs) → FkR K ct v i kvs
/-- a step: what was frozen is so still, what was tracked and is none of the store's stands -/
structure Le (v v' : Vw) : Prop where
  g : Same v.G v'.G
  m : Grow v.m v'.m
  h : ∀ b o, v.H b = some o → ¬ v.owns b → v'.H b = some o
  nw : ∀ b, v'.G b ≠ none → v.G b ≠ none ∨ v.H b = none ∨ v.owns b
  ow : ∀ b, v'.owns b → v.owns b ∨ v.H b = none
  al : ∀ b, v'.H b = none → v.H b = none
theorem same_none {H H' : Hp} (s : Same H H') (b : Addr) (h : H' b = none) : H b = none := s.free h
theorem Le.refl {v : Vw} : Le v v := ⟨Same.refl _, .refl, fun _ _ h _ => h, fun _ h => .inl h, fun _ h => .inl h, fun _ h => h⟩
theorem Le.trans {a b c : Vw} (x : Le a b) (y : Le b c) : Le a c := by
  have key : ∀ p, b.H p = none ∨ b.owns p → a.H p = none ∨ a.owns p := fun p z => by
    cases e : a.H p with
    | none => exact .inl rfl
    | some o =>
      by_cases q : a.owns p
      · exact .inr q
      · have h1 := x.h p o e q
        rcases z with z | z
        · rw [h1] at z; cases z
        · rcases x.ow p z with z | z
          · exact .inr z
          · rw [e] at z; cases z
  refine ⟨x.g.trans y.g, x.m.trans y.m, fun p o h n => ?_, fun p h => ?_, fun p h => ?_, fun p h => x.al p (y.al p h)⟩
  · refine y.h p o (x.h p o h n) fun z => ?_
    rcases x.ow p z with z | z
    · exact n z
    · rw [h] at z; cases z
  · rcases y.nw p h with z | z
    · exact x.nw p z
    · exact .inr (key p z)
  · rcases y.ow p h with z | z
    · exact x.ow p z
    · exact (key p (.inl z)).symm
theorem same_new {H : Hp} {p : Addr} (h : H p = none) (o : HO) : Same H (upd H p o) := fun b u q => by rw [upd_ne (ne_of_none q h)]; exact q
theorem same_upd {G H : Hp} {p : Addr} {o : HO} (s : Same G H) : Same (upd G p o) (upd H p o) := fun b u q => by
  unfold upd at *
  by_cases e : b = p
  · rw [if_pos e] at q ⊢
    exact q
  · rw [if_neg e] at q ⊢
    exact s _ _ q
section
variable {K : PySem.W.Frag} {ct : String → Addr}
theorem Le.rep {v v' : Vw} {d : D} {x : V} (l : Le v v') (r : Rep K ct v.G v.m d x) : Rep K ct v'.G v'.m d x := r.mono l.g l.m
theorem Le.repl {v v' : Vw} {d : List D} {x : List V} (l : Le v v') (r : RepL K ct v.G v.m d x) : RepL K ct v'.G v'.m d x := r.mono l.g l.m
theorem SR.obj_ne {v : Vw} (s : SR K ct v) {i : Nat} {o : O} {a : Addr} (h : v.st[i]? = some o) (l : o.live = true) (e : v.m i = some a) : v.G a = none ∧ ∃ u, v.H a = some u ∧ ∀ x, u ≠ .own x := by
  obtain ⟨a', e', g, r⟩ := s.obj i o h l
  rw [e] at e'
  cases e'
  refine ⟨g, ?_⟩
  cases o with
  | gone => cases l
  | lst xs => obtain ⟨vs, h, _⟩ := r; exact ⟨_, h, fun _ z => nomatch z⟩
  | dK xs => obtain ⟨vs, h, _⟩ := r; exact ⟨_, h, fun _ z => nomatch z⟩
  | dT xs => obtain ⟨vs, h, _⟩ := r; exact ⟨_, h, fun _ z => nomatch z⟩
  | ins c fs => obtain ⟨dx, vs, h, _⟩ := r; exact ⟨_, h, fun _ z => nomatch z⟩
  | tab x nm => obtain ⟨_, ps, h, _⟩ := r; exact ⟨_, h, fun _ z => nomatch z⟩
  | fK xs => cases l
/-- the own dict of an instance of the store -/
theorem SR.dx {v : Vw} (s : SR K ct v) {i : Nat} {o : O} {a C b : Addr} {fs : List (Str × V)} (h : v.st[i]? = some o) (l : o.live = true) (e : v.m i = some a) (hi : v.H a = some (.ins C b fs)) : v.H b = some (.own a) ∧ v.G b = none := by
  obtain ⟨a', e', g, r⟩ := s.obj i o h l
  rw [e] at e'
  cases e'
  cases o with
  | gone => cases l
  | lst xs => obtain ⟨vs, h, _⟩ := r; rw [hi] at h; cases h
  | dK xs => obtain ⟨vs, h, _⟩ := r; rw [hi] at h; cases h
  | dT xs => obtain ⟨vs, h, _⟩ := r; rw [hi] at h; cases h
  | tab x nm => obtain ⟨_, ps, h, _⟩ := r; rw [hi] at h; cases h
  | fK xs => cases l
  | ins c fs =>
    obtain ⟨dx, vs, h, h2, h3, _⟩ := r
    rw [hi] at h
    cases h
    exact ⟨h2, h3⟩
/-- what is the store's is tracked and not frozen -/
theorem SR.owns_tracked {v : Vw} (s : SR K ct v) {b : Addr} (h : v.owns b) : v.G b = none ∧ ∃ u, v.H b = some u := by
  obtain ⟨i, o, a, e, l, em, h⟩ := h
  rcases h with rfl | ⟨C, fs, h⟩
  · obtain ⟨g, u, hu, _⟩ := s.obj_ne e l em
    exact ⟨g, u, hu⟩
  · obtain ⟨h1, h2⟩ := s.dx e l em h
    exact ⟨h2, _, h1⟩
theorem SR.not_owned {v : Vw} (s : SR K ct v) {b : Addr} (h : v.H b = none) : ¬ v.owns b := fun z => by
  obtain ⟨_, u, hu⟩ := s.owns_tracked z
  rw [h] at hu
  cases hu
theorem ORep.mono' {v v' : Vw} {a : Addr} {o : O} (g : Same v.G v'.G) (m : Grow v.m v'.m) (ha : v'.H a = v.H a) (hd : ∀ C dx fs, v.H a = some (.ins C dx fs) → v.H dx = some (.own a) → v.G dx = none → v'.H dx = v.H dx ∧ v'.G dx = none) (r : ORep K ct v a o) : ORep K ct v' a o := by
  cases o with
  | gone => trivial
  | lst xs => obtain ⟨vs, h, r⟩ := r; exact ⟨vs, ha.trans h, r.mono g m⟩
  | dK xs => obtain ⟨vs, h, r⟩ := r; exact ⟨vs, ha.trans h, r.mono g m⟩
  | dT xs => obtain ⟨vs, h, r⟩ := r; exact ⟨vs, ha.trans h, r.mono g m⟩
  | fK xs => exact r
  | tab x nm =>
    obtain ⟨e, ps, h, t, r⟩ := r
    exact ⟨e, ps, ha.trans h, t, fun pos cv q => by
      obtain ⟨c, e1, e2⟩ := r pos cv q
      exact ⟨c, e1, g _ _ e2⟩⟩
  | ins c fs =>
    obtain ⟨dx, vs, h, h2, h3, r⟩ := r
    obtain ⟨h4, h5⟩ := hd _ _ _ h h2 h3
    exact ⟨dx, vs, ha.trans h, h4.trans h2, h5, r.mono g m⟩
theorem SR.free {v : Vw} (s : SR K ct v) {p : Addr} (h : v.H p = none) : v.G p = none := s.sub.free h
/-- the heaps go on, the store is as it was -/
theorem grow_ok {v : Vw} {G' H' : Hp} (s : SR K ct v) (hg : Same v.G G') (hh : Same v.H H') (sub : Same G' H') (nw : ∀ b, G' b ≠ none → v.G b ≠ none ∨ v.H b = none) : Le v ⟨G', H', v.m, v.st⟩ ∧ SR K ct ⟨G', H', v.m, v.st⟩ := by
  have keepG : ∀ b u, v.H b = some u → v.G b = none → G' b = none := fun b u h g => by
    cases z : G' b with
    | none => rfl
    | some w =>
      rcases nw b (by rw [z]; exact fun y => nomatch y) with y | y
      · exact absurd g y
      · rw [h] at y; cases y
  refine ⟨⟨hg, .refl, fun b u q _ => hh _ _ q, fun b q => (nw b q).imp id .inl, fun b ⟨i, u, a, e, l, em, q⟩ => ?_, same_none hh⟩, sub, s.dom, fun i u e l => ?_, s.inj, fun i kvs e => (s.fk i kvs e).mono hg .refl⟩
  · rcases q with rfl | ⟨C, fs, q⟩
    · exact .inl ⟨i, u, b, e, l, em, .inl rfl⟩
    · obtain ⟨_, w, hw, _⟩ := s.obj_ne e l em
      have q' : H' a = some (.ins C b fs) := q
      rw [hh _ _ hw] at q'
      cases q'
      exact .inl ⟨i, u, a, e, l, em, .inr ⟨C, fs, hw⟩⟩
  · obtain ⟨a, em, ga, r⟩ := s.obj i u e l
    obtain ⟨_, w, hw, _⟩ := s.obj_ne e l em
    exact ⟨a, em, keepG _ _ hw ga, r.mono' hg .refl ((hh _ _ hw).trans hw.symm) fun C dx fs _ q1 q2 => ⟨(hh _ _ q1).trans q1.symm, keepG _ _ q1 q2⟩⟩
/-- a new object at p, frozen -/
def Vw.new (v : Vw) (p : Addr) (o : HO) : Vw := ⟨upd v.G p o, upd v.H p o, v.m, v.st⟩
theorem new_ok {v : Vw} {p : Addr} {o : HO} (s : SR K ct v) (h : v.H p = none) : Le v (v.new p o) ∧ SR K ct (v.new p o) :=
  grow_ok s (same_new (s.free h) _) (same_new h _) (same_upd s.sub) fun b q => by
    by_cases z : b = p
    · exact .inr (z ▸ h)
    · rw [upd_ne z] at q
      exact .inl q
theorem more_ok {v : Vw} {H' : Hp} (s : SR K ct v) (h : Same v.H H') : Le v ⟨v.G, H', v.m, v.st⟩ ∧ SR K ct ⟨v.G, H', v.m, v.st⟩ :=
  grow_ok s (Same.refl _) h (s.sub.trans h) fun _ q => .inl q

/-! ### things of the store -/
def mset (m : Nat → Option Addr) (i : Nat) (a : Addr) : Nat → Option Addr := fun j => if j = i then some a else m j
theorem mset_same {m : Nat → Option Addr} {i : Nat} {a : Addr} : mset m i a i = some a := if_pos rfl
theorem mset_ne {m : Nat → Option Addr} {i j : Nat} {a : Addr} (h : j ≠ i) : mset m i a j = m j := if_neg h
theorem mset_grow {m : Nat → Option Addr} {i : Nat} {a : Addr} (h : m i = none) : Grow m (mset m i a) := fun j b e => by
  rw [mset_ne]
  · exact e
  · intro z; rw [z, h] at e; cases e
theorem get_snoc {st : Sto} {o u : O} {i : Nat} (e : (st ++ [o])[i]? = some u) : (i < st.length ∧ st[i]? = some u) ∨ (i = st.length ∧ u = o) := by
  by_cases z : i < st.length
  · rw [List.getElem?_append_left z] at e
    exact .inl ⟨z, e⟩
  · rw [List.getElem?_append_right (Nat.not_lt.mp z)] at e
    have h0 : i - st.length = 0 := by
      have := (List.getElem?_eq_some_iff.mp e).1
      simp only [List.length_cons, List.length_nil] at this
      omega
    rw [h0] at e
    simp only [List.getElem?_cons_zero, Option.some.injEq] at e
    exact .inr ⟨by omega, e.symm⟩
/-- a new thing of the store: its address, the heap with it -/
def Vw.alloc (v : Vw) (p : Addr) (H' : Hp) (o : O) : Vw := ⟨v.G, H', mset v.m v.st.length p, v.st ++ [o]⟩
theorem alloc_ok {v : Vw} {p : Addr} {H' : Hp} {o : O} (s : SR K ct v) (hp : v.H p = none) (hs : Same v.H H') (hn : ∀ C b fs, H' p = some (.ins C b fs) → v.H b = none)
    (r : ORep K ct (v.alloc p H' o) p o) : Le v (v.alloc p H' o) ∧ SR K ct (v.alloc p H' o) := by
  have m0 : v.m v.st.length = none := s.dom _ (Nat.le_refl _)
  have gr : Grow v.m (mset v.m v.st.length p) := mset_grow m0
  have np : ∀ {i : Nat} {u : O} {a : Addr}, v.st[i]? = some u → u.live = true → v.m i = some a → a ≠ p := fun e l em => by
    obtain ⟨_, w, hw, _⟩ := s.obj_ne e l em
    exact ne_of_none hw hp
  have get_snoc : ∀ {i : Nat} {u : O}, (v.alloc p H' o).st[i]? = some u → (i < v.st.length ∧ v.st[i]? = some u) ∨ (i = v.st.length ∧ u = o) := fun e => get_snoc e
  refine ⟨⟨Same.refl _, gr, fun b u q _ => hs _ _ q, fun b q => .inl q, fun b ⟨i, u, a, e, l, em, q⟩ => ?_, same_none hs⟩, s.sub.trans hs, fun i hi => ?_, fun i u e l => ?_, fun i j u w a e1 e2 l1 l2 m1 m2 => ?_, fun i kvs e => ?_⟩
  · have em' : mset v.m v.st.length p i = some a := em
    rcases get_snoc e with ⟨z, e⟩ | ⟨rfl, rfl⟩
    · rw [mset_ne (Nat.ne_of_lt z)] at em'
      rcases q with rfl | ⟨C, fs, q⟩
      · exact .inl ⟨i, u, b, e, l, em', .inl rfl⟩
      · obtain ⟨_, w, hw, _⟩ := s.obj_ne e l em'
        have q' : H' a = some (.ins C b fs) := q
        rw [hs _ _ hw] at q'
        cases q'
        exact .inl ⟨i, u, a, e, l, em', .inr ⟨C, fs, hw⟩⟩
    · rw [mset_same] at em'
      cases em'
      rcases q with rfl | ⟨C, fs, q⟩
      · exact .inr hp
      · exact .inr (hn C b fs q)
  · have hl : v.st.length + 1 ≤ i := by simpa [Vw.alloc] using hi
    show mset v.m v.st.length p i = none
    rw [mset_ne (by omega)]
    exact s.dom i (by omega)
  · rcases get_snoc e with ⟨z, e⟩ | ⟨rfl, rfl⟩
    · obtain ⟨a, em, ga, r⟩ := s.obj i u e l
      obtain ⟨_, w, hw, _⟩ := s.obj_ne e l em
      exact ⟨a, (mset_ne (Nat.ne_of_lt z)).trans em, ga, r.mono' (v := v) (v' := v.alloc p H' o) (Same.refl _) gr ((hs _ _ hw).trans hw.symm) fun C dx fs _ q1 q2 => ⟨(hs _ _ q1).trans q1.symm, q2⟩⟩
    · exact ⟨p, mset_same, s.free hp, r⟩
  · have m1' : mset v.m v.st.length p i = some a := m1
    have m2' : mset v.m v.st.length p j = some a := m2
    rcases get_snoc e1 with ⟨z1, f1⟩ | ⟨y1, f1⟩ <;> rcases get_snoc e2 with ⟨z2, f2⟩ | ⟨y2, f2⟩
    · rw [mset_ne (Nat.ne_of_lt z1)] at m1'
      rw [mset_ne (Nat.ne_of_lt z2)] at m2'
      exact s.inj i j u w a f1 f2 l1 l2 m1' m2'
    · rw [mset_ne (Nat.ne_of_lt z1)] at m1'
      rw [y2, mset_same] at m2'
      cases m2'
      exact absurd rfl (np f1 l1 m1')
    · rw [mset_ne (Nat.ne_of_lt z2)] at m2'
      rw [y1, mset_same] at m1'
      cases m1'
      exact absurd rfl (np f2 l2 m2')
    · rw [y1, y2]
  · rcases get_snoc e with ⟨_, f⟩ | ⟨_, f⟩
    · exact FkR.mono (v := v) (v' := v.alloc p H' o) (Same.refl _) gr (s.fk i kvs f)
    · subst f
      exact r.elim
/-- a thing of the store is changed, at its own address -/
def Vw.put (v : Vw) (i : Nat) (a : Addr) (u : HO) (o : O) : Vw := ⟨v.G, upd v.H a u, v.m, v.st.set i o⟩
theorem put_ok {v : Vw} {i : Nat} {a : Addr} {u : HO} {o o0 : O} (s : SR K ct v) (e0 : v.st[i]? = some o0) (l0 : o0.live = true) (em : v.m i = some a) (hn : ∀ C b fs, u = .ins C b fs → ∃ fs0, v.H a = some (.ins C b fs0))
    (r : ORep K ct (v.put i a u o) a o) : Le v (v.put i a u o) ∧ SR K ct (v.put i a u o) := by
  obtain ⟨ga, w0, hw0, no0⟩ := s.obj_ne e0 l0 em
  have own : v.owns a := ⟨i, o0, a, e0, l0, em, .inl rfl⟩
  have get : ∀ {j : Nat} {w : O}, (v.st.set i o)[j]? = some w → (j = i ∧ w = o) ∨ (j ≠ i ∧ v.st[j]? = some w) := fun {j w} e => by
    by_cases z : i = j
    · subst z
      rw [List.getElem?_set_self (List.getElem?_eq_some_iff.mp e0).1] at e
      exact .inl ⟨rfl, (Option.some.inj e).symm⟩
    · rw [List.getElem?_set_ne z] at e
      exact .inr ⟨fun q => z q.symm, e⟩
  refine ⟨⟨Same.refl _, .refl, fun b w q n => ?_, fun b q => .inl q, fun b ⟨j, w, a2, e, l, em2, q⟩ => ?_, fun b q => ?_⟩, fun b w q => ?_, fun j hj => s.dom j (by simpa [Vw.put] using hj), fun j w e l => ?_, fun j k w w2 a2 e1 e2 l1 l2 m1 m2 => ?_, fun j kvs e => ?_⟩
  · show upd v.H a u b = some w
    have z : b ≠ a := fun z => n (by rw [z]; exact own)
    rw [upd_ne z]
    exact q
  · rcases get e with ⟨rfl, rfl⟩ | ⟨z, e⟩
    · have em2' : v.m j = some a2 := em2
      rw [em] at em2'
      cases em2'
      rcases q with rfl | ⟨C, fs, q⟩
      · exact .inl own
      · have q' : upd v.H a u a = some (.ins C b fs) := q
        rw [upd_same] at q'
        obtain ⟨fs0, h0⟩ := hn C b fs (Option.some.inj q')
        exact .inl ⟨j, o0, a, e0, l0, em, .inr ⟨C, fs0, h0⟩⟩
    · have em2' : v.m j = some a2 := em2
      rcases q with rfl | ⟨C, fs, q⟩
      · exact .inl ⟨j, w, b, e, l, em2', .inl rfl⟩
      · have na : a2 ≠ a := fun zz => z (s.inj j i w o0 a e e0 l l0 (zz ▸ em2') em)
        have q' : upd v.H a u a2 = some (.ins C b fs) := q
        rw [upd_ne na] at q'
        exact .inl ⟨j, w, a2, e, l, em2', .inr ⟨C, fs, q'⟩⟩
  · have q' : upd v.H a u b = none := q
    by_cases z : b = a
    · rw [z, upd_same] at q'
      cases q'
    · rw [upd_ne z] at q'
      exact q'
  · show upd v.H a u b = some w
    have q' : v.G b = some w := q
    have z : b ≠ a := fun z => by rw [z, ga] at q'; cases q'
    rw [upd_ne z]
    exact s.sub _ _ q'
  · rcases get e with ⟨rfl, rfl⟩ | ⟨z, e⟩
    · exact ⟨a, em, ga, r⟩
    · obtain ⟨a2, em2, ga2, r2⟩ := s.obj j w e l
      have na : a2 ≠ a := fun zz => z (s.inj j i w o0 a e e0 l l0 (zz ▸ em2) em)
      refine ⟨a2, em2, ga2, r2.mono' (v := v) (v' := v.put i a u o) (Same.refl _) .refl (upd_ne na) fun C dx fs _ q1 q2 => ⟨upd_ne fun zz => ?_, q2⟩⟩
      rw [zz, hw0] at q1
      exact no0 _ (Option.some.inj q1)
  · rcases get e1 with ⟨y1, _⟩ | ⟨z1, f1⟩ <;> rcases get e2 with ⟨y2, _⟩ | ⟨z2, f2⟩
    · rw [y1, y2]
    · exact s.inj j k o0 w2 a2 (y1 ▸ e0) f2 l0 l2 m1 m2
    · exact s.inj j k w o0 a2 f1 (y2 ▸ e0) l1 l0 m1 m2
    · exact s.inj j k w w2 a2 f1 f2 l1 l2 m1 m2
  · rcases get e with ⟨_, f⟩ | ⟨_, f⟩
    · subst f
      exact r.elim
    · exact s.fk j kvs f
/-- a thing of the store is frozen, or forgotten -/
def Vw.frz (v : Vw) (i : Nat) (a : Addr) (u : HO) : Vw := ⟨upd v.G a u, v.H, v.m, v.st.set i .gone⟩
theorem frz_ok {v : Vw} {i : Nat} {a : Addr} {u : HO} {o0 : O} (s : SR K ct v) (e0 : v.st[i]? = some o0) (l0 : o0.live = true) (em : v.m i = some a) (hu : v.H a = some u) : Le v (v.frz i a u) ∧ SR K ct (v.frz i a u) := by
  obtain ⟨ga, w0, hw0, no0⟩ := s.obj_ne e0 l0 em
  have own : v.owns a := ⟨i, o0, a, e0, l0, em, .inl rfl⟩
  have get : ∀ {j : Nat} {w : O}, (v.st.set i .gone)[j]? = some w → w.live = true → j ≠ i ∧ v.st[j]? = some w := fun {j w} e l => by
    by_cases z : i = j
    · subst z
      rw [List.getElem?_set_self (List.getElem?_eq_some_iff.mp e0).1] at e
      cases e
      cases l
    · rw [List.getElem?_set_ne z] at e
      exact ⟨fun q => z q.symm, e⟩
  have sg := same_new ga u
  refine ⟨⟨sg, .refl, fun b w q n => q, fun b q => ?_, fun b ⟨j, w, a2, e, l, em2, q⟩ => ?_, fun b q => q⟩, fun b w q => ?_, fun j hj => s.dom j (by simpa [Vw.frz] using hj), fun j w e l => ?_, fun j k w w2 a2 e1 e2 l1 l2 m1 m2 => ?_, fun j kvs e => ?_⟩
  · by_cases z : b = a
    · exact .inr (.inr (z ▸ own))
    · have q' : upd v.G a u b ≠ none := q
      rw [upd_ne z] at q'
      exact .inl q'
  · obtain ⟨_, e⟩ := get e l
    exact .inl ⟨j, w, a2, e, l, em2, q⟩
  · by_cases z : b = a
    · have q' : upd v.G a u b = some w := q
      rw [z, upd_same] at q'
      cases q'
      show v.H b = some u
      rw [z]
      exact hu
    · have q' : upd v.G a u b = some w := q
      rw [upd_ne z] at q'
      exact s.sub _ _ q'
  · obtain ⟨z, e⟩ := get e l
    obtain ⟨a2, em2, ga2, r2⟩ := s.obj j w e l
    have na : a2 ≠ a := fun zz => z (s.inj j i w o0 a e e0 l l0 (zz ▸ em2) em)
    refine ⟨a2, em2, (upd_ne na).trans ga2, r2.mono' (v := v) (v' := v.frz i a u) sg .refl rfl fun C dx fs _ q1 q2 => ⟨rfl, (upd_ne fun zz => ?_).trans q2⟩⟩
    rw [zz, hw0] at q1
    exact no0 _ (Option.some.inj q1)
  · exact s.inj j k w w2 a2 (get e1 l1).2 (get e2 l2).2 l1 l2 m1 m2
  · by_cases z : i = j
    · subst z
      have e' : (v.st.set i .gone)[i]? = some (.fK kvs) := e
      rw [List.getElem?_set_self (List.getElem?_eq_some_iff.mp e0).1] at e'
      cases e'
    · have e' : (v.st.set i .gone)[j]? = some (.fK kvs) := e
      rw [List.getElem?_set_ne z] at e'
      exact FkR.mono (v := v) (v' := v.frz i a u) sg .refl (s.fk j kvs e')
end
end Gs

/-! G2: results, frames, expressions, tests, arguments. -/
namespace Gs
open PySem L2

structure Ex where
  cls : String
  fs : List (Str × D)
inductive R (α : Type) where
  | ok (a : α) (s : Sto) | exc (e : Ex) (s : Sto) | stk
def R.bind {α β : Type} (r : R α) (k : α → Sto → R β) : R β := match r with
  | .ok a s => k a s
  | .exc e s => .exc e s
  | .stk => .stk
def R.ofO {α : Type} (o : Option α) (s : Sto) : R α := match o with
  | some a => .ok a s
  | none => .stk

/-- what is fixed through a body: the view at its entry, the classes' addresses, what is wanted of an exception -/
structure Cc where
  v0 : Vw
  ct : String → Addr
  W : WX
/-- an exception's class and own dict -/
def RepX (K : PySem.W.Frag) (ct : String → Addr) (v : Vw) (e : Ex) (cls : Value) (dd : Option Addr) : Prop :=
  cls = .ref (ct e.cls) ∧ ((e.fs = [] ∧ dd = none) ∨ (e.fs ≠ [] ∧ ∃ d fs, dd = some d ∧ v.G d = some (.xd fs) ∧ RepP K ct v.G v.m e.fs fs))
abbrev Sl := List (Option D)
structure RE (K : PySem.W.Frag) (C : Cc) (σ : L2.St) (δ : Sl) (v : Vw) : Prop where
  le : Le C.v0 v
  sr : SR K C.ct v
  len : σ.length = δ.length
  sl : ∀ (i : Nat) (d : D), δ[i]? = some (some d) → ∃ x, σ[i]? = some (some x) ∧ Rep K C.ct v.G v.m d x
section
variable {K : PySem.W.Frag} {C : Cc} {σ : L2.St} {δ : Sl} {v v' : Vw}
theorem RE.step (r : RE K C σ δ v) (l : Le v v') (s : SR K C.ct v') : RE K C σ δ v' :=
  ⟨r.le.trans l, s, r.len, fun i d h => let ⟨x, e, q⟩ := r.sl i d h; ⟨x, e, l.rep q⟩⟩
theorem RE.setV {d : D} {x : V} (r : RE K C σ δ v) (i : Nat) (h : Rep K C.ct v.G v.m d x) : RE K C (σ.set i (some x)) (δ.set i (some d)) v := by
  refine ⟨r.le, r.sr, by simp [r.len], fun j e hs => ?_⟩
  by_cases z : i = j
  · subst z
    have hi : i < δ.length := by
      have := (List.getElem?_eq_some_iff.mp hs).1
      simpa using this
    rw [List.getElem?_set_self hi] at hs
    cases hs
    rw [List.getElem?_set_self (by rw [r.len]; exact hi)]
    exact ⟨x, rfl, h⟩
  · rw [List.getElem?_set_ne z] at hs
    rw [List.getElem?_set_ne z]
    exact r.sl j e hs
theorem RE.setU (r : RE K C σ δ v) (i : Nat) (x : Option V) : RE K C (σ.set i x) (δ.set i none) v := by
  refine ⟨r.le, r.sr, by simp [r.len], fun j e hs => ?_⟩
  by_cases z : i = j
  · subst z
    have hi : i < δ.length := by
      have := (List.getElem?_eq_some_iff.mp hs).1
      simpa using this
    rw [List.getElem?_set_self hi] at hs
    cases hs
  · rw [List.getElem?_set_ne z] at hs
    rw [List.getElem?_set_ne z]
    exact r.sl j e hs
end

/-! ### what is due of a result -/
def onX (K : PySem.W.Frag) (C : Cc) (σ : L2.St) (v : Vw) (e : Ex) (s : Sto) : Prop := ∀ cls dd v', Le v v' → SR K C.ct v' → v'.st = s → RepX K C.ct v' e cls dd → C.W cls dd σ v'.H
def on {α β : Type} (K : PySem.W.Frag) (C : Cc) (σ : L2.St) (v : Vw) (rel : α → β → Vw → Prop) (r : R α) (P : α → β → Vw → Prop) : Prop := match r with
  | .ok a s => ∀ b v', Le v v' → SR K C.ct v' → v'.st = s → rel a b v' → P a b v'
  | .exc e s => onX K C σ v e s
  | .stk => False
abbrev rE (K : PySem.W.Frag) (ct : String → Addr) : D → V → Vw → Prop := fun d x v => Rep K ct v.G v.m d x
abbrev rA (K : PySem.W.Frag) (ct : String → Addr) : List D → List V → Vw → Prop := fun d x v => RepL K ct v.G v.m d x
abbrev rB {α : Type} : α → α → Vw → Prop := fun a b _ => a = b
section
variable {α β γ ε : Type} {K : PySem.W.Frag} {C : Cc} {σ : L2.St} {v v' : Vw} {rel : α → β → Vw → Prop} {rel2 : γ → ε → Vw → Prop}
theorem on_step {r : R α} {P : α → β → Vw → Prop} (l : Le v v') (h : on K C σ v rel r P) : on K C σ v' rel r P := by
  cases r with
  | ok a s => exact fun b w l2 => h b w (l.trans l2)
  | exc e s => exact fun cls dd w l2 => h cls dd w (l.trans l2)
  | stk => exact h
theorem on_mono {r : R α} {P P' : α → β → Vw → Prop} (h : on K C σ v rel r P) (w : ∀ a b v', Le v v' → SR K C.ct v' → rel a b v' → P a b v' → P' a b v') : on K C σ v rel r P' := by
  cases r with
  | ok a s => exact fun b v' l sr e q => w a b v' l sr q (h b v' l sr e q)
  | exc e s => exact h
  | stk => exact h
/-- one after another -/
theorem on_bind {r : R α} {k : α → Sto → R γ} {P : γ → ε → Vw → Prop} (h : on K C σ v rel2 (r.bind k) P) : on K C σ v rel r fun a _ v1 => on K C σ v1 rel2 (k a v1.st) P := by
  cases r with
  | ok a s =>
    intro b v1 l sr e q
    subst e
    exact on_step l h
  | exc e s => exact h
  | stk => exact h
theorem on_self {a : α} {b : β} {P : α → β → Vw → Prop} (sr : SR K C.ct v) (h : on K C σ v rel (.ok a v.st) P) (r : rel a b v) : P a b v := h b v .refl sr rfl r
theorem on_ofO {o : Option α} {P : α → β → Vw → Prop} (h : on K C σ v rel (R.ofO o v.st) P) : ∃ a, o = some a ∧ ∀ b v', Le v v' → SR K C.ct v' → v'.st = v.st → rel a b v' → P a b v' := by
  cases o with
  | none => exact h.elim
  | some a => exact ⟨a, rfl, h⟩
end

abbrev E := Sl → Sto → R D
abbrev T := Sl → Sto → R Bool
abbrev As := Sl → Sto → R (List D)
def liftE (K : PySem.W.Frag) (C : Cc) (f : E) : TE := fun σ H Q => ∃ δ v, RE K C σ δ v ∧ v.H = H ∧ on K C σ v (rE K C.ct) (f δ v.st) fun _ x v' => Q x v'.H
def liftT (K : PySem.W.Frag) (C : Cc) (f : T) : TT := fun σ H Q => ∃ δ v, RE K C σ δ v ∧ v.H = H ∧ on K C σ v rB (f δ v.st) fun _ b v' => Q b v'.H
def liftA (K : PySem.W.Frag) (C : Cc) (f : As) : TA := fun σ H Q => ∃ δ v, RE K C σ δ v ∧ v.H = H ∧ on K C σ v (rA K C.ct) (f δ v.st) fun _ xs v' => Q xs v'.H
abbrev SE (X : Cx) (C : Cc) (e : Expr) (f : E) : Prop := PE X e (liftE X.K C f)
abbrev ST (X : Cx) (C : Cc) (e : Expr) (f : T) : Prop := PT X e (liftT X.K C f)
abbrev SA (X : Cx) (C : Cc) (es : List Expr) (f : As) : Prop := PA X es (liftA X.K C f)
theorem pe_weak {X : Cx} {e : Expr} {t t' : TE} (h : PE X e t) (w : ∀ σ H Q, t' σ H Q → t σ H Q) : PE X e t' := ⟨fun pins s σ H Q I z => h.run pins s σ H Q I (w σ H Q z)⟩
theorem pt_weak {X : Cx} {e : Expr} {t t' : TT} (h : PT X e t) (w : ∀ σ H Q, t' σ H Q → t σ H Q) : PT X e t' := ⟨fun pins s σ H Q I z => h.run pins s σ H Q I (w σ H Q z)⟩
theorem pw_weak {X : Cx} {e : Expr} {t t' : TT} (h : PW X e t) (w : ∀ σ H Q, t' σ H Q → t σ H Q) : PW X e t' := ⟨fun wh pins s σ H Q I z => h.run wh pins s σ H Q I (w σ H Q z)⟩
theorem pa_weak {X : Cx} {e : List Expr} {t t' : TA} (h : PA X e t) (w : ∀ σ H Q, t' σ H Q → t σ H Q) : PA X e t' := ⟨fun pos pins s σ H Q I z => h.run pos pins s σ H Q I (w σ H Q z)⟩

/-! ### names and constants -/
def eV (i : Nat) : E := fun δ s => match δ[i]? with
  | some (some d) => .ok d s
  | _ => .stk
def eC (d : D) : E := fun _ s => .ok d s
def eStk : E := fun _ _ => .stk
section
variable {X : Cx} {C : Cc} {pos : Pos}
theorem se_var (i : Nat) {x : Str} (hN : X.N[i]? = some x := by rfl) (hv : Vis X.env.scope x := by first | exact Or.inl rfl | exact Or.inr (Or.inl rfl) | exact Or.inr (Or.inr rfl)) (hd : (x == ("__debug__" : Str)) = false := by decide)
    (hcd : (x == ("__classdict__" : Str)) = false := by decide) : SE X C (.Name x pos) (eV i) :=
  pe_weak (pe_var hN hv hd hcd) fun σ H Q ⟨δ, v, re, eH, h⟩ => by
    subst eH
    unfold eV at h
    split at h
    · rename_i d e
      obtain ⟨x, ex, rx⟩ := re.sl i d e
      exact ⟨x, ex, on_self re.sr h rx⟩
    · exact h.elim
theorem se_const {e : Expr} {d : D} {x : V} (h : PE X e (fun _ H Q => Q x H)) (r : ∀ G m, Rep X.K C.ct G m d x) : SE X C e (eC d) :=
  pe_weak h fun σ H Q ⟨δ, v, re, eH, h⟩ => by subst eH; exact on_self re.sr h (r _ _)
theorem se_int {i : Int} {j : Nat} : SE X C (.Constant (.int i) j pos) (eC (.int i)) := se_const pe_int fun _ _ => .int i
theorem se_bl {b : Bool} {j : Nat} : SE X C (.Constant (.bool b) j pos) (eC (.bl b)) := se_const pe_bl fun _ _ => .bl b
theorem se_non {j : Nat} : SE X C (.Constant .none j pos) (eC .non) := se_const pe_non fun _ _ => .non
theorem se_str {x : Str} {j : Nat} : SE X C (.Constant (.str x) j pos) (eC (.str x)) := se_const pe_str fun _ _ => .str x
/-- a constant of the module -/
theorem se_glob {x : Str} {d : D} {v : V} {u : Value} (hg : Gl X x) (hm : X.mg x = some u) (r : RelV v u) (rd : ∀ G m, Rep X.K C.ct G m d v) (hd : (x == ("__debug__" : Str)) = false := by decide) : SE X C (.Name x pos) (eC d) := se_const (pe_glob hg hm r hd) rd
theorem se_never {e : Expr} : SE X C e eStk := ⟨fun pins s σ H Q I ⟨δ, v, re, eH, h⟩ => h.elim⟩
end

/-! ### what stands at the top of a datum, read in the heap as it is -/
inductive RepT (K : PySem.W.Frag) (ct : String → Addr) (v : Vw) : D → V → Prop
  | non : RepT K ct v .non .non
  | bl (b : Bool) : RepT K ct v (.bl b) (.bl b)
  | int (i : Int) : RepT K ct v (.int i) (.int i)
  | str (x : Str) : RepT K ct v (.str x) (.str x)
  | fn (s : String) : RepT K ct v (.fn s) (.ref (ct s))
  | ob {i : Nat} {a : Addr} : v.m i = some a → RepT K ct v (.ob i) (.ref a)
  | tup {a : Addr} {vs : List V} {ds : List D} : SqT K v.G a vs → RepL K ct v.G v.m ds vs → RepT K ct v (.tup ds) (.ref a)
  | lst {a : Addr} {vs : List V} {ds : List D} : SqL K v.H a vs → RepL K ct v.G v.m ds vs → RepT K ct v (.lst ds) (.ref a)
  | dct {a : Addr} {vs : List V} {ks : List Key} {ds : List D} : v.H a = some (.dK (ks.zip vs)) → ks.length = ds.length → RepL K ct v.G v.m ds vs → RepT K ct v (.dct ks ds) (.ref a)
  | ev {a : Addr} {c : String} {ks : List Str} {ds : List D} : Rep K ct v.G v.m (.ev c ks ds) (.ref a) → RepT K ct v (.ev c ks ds) (.ref a)
  | clo {a : Addr} {k : Clo} {ds : List D} : Rep K ct v.G v.m (.clo k ds) (.ref a) → RepT K ct v (.clo k ds) (.ref a)
def rsv (s : Sto) : D → D
  | .ob i => match s[i]? with
    | some (.lst xs) => .lst xs
    | some (.dK kvs) => .dct (kvs.map (·.1)) (kvs.map (·.2))
    | _ => .ob i
  | d => d
theorem zip_unzip {κ β : Type} : ∀ l : List (κ × β), (l.map (·.1)).zip (l.map (·.2)) = l
  | [] => rfl
  | x :: r => by simp [zip_unzip r]
theorem Rep.top {K : PySem.W.Frag} {ct : String → Addr} {v : Vw} {d : D} {x : V} (sr : SR K ct v) (r : Rep K ct v.G v.m d x) : RepT K ct v (rsv v.st d) x := by
  cases r with
  | non => exact .non
  | bl b => exact .bl b
  | int b => exact .int b
  | str b => exact .str b
  | fn s => exact .fn s
  | tup h r => exact .tup h r
  | lst h r => exact .lst (sr.sub.seq h) r
  | dct h l r => exact .dct (sr.sub _ _ h) l r
  | ev0 h => exact .ev (.ev0 h)
  | ev n h h2 l r => exact .ev (.ev n h h2 l r)
  | clo h1 h2 h3 h4 r => exact .clo (.clo h1 h2 h3 h4 r)
  | @ob _ _ i a e =>
    unfold rsv
    dsimp only
    split
    · rename_i xs h
      obtain ⟨a', e', _, vs, h2, r⟩ := sr.obj i _ h rfl
      rw [e] at e'
      cases e'
      exact .lst (SqL.of h2) r
    · rename_i kvs h
      obtain ⟨a', e', _, vs, h2, r⟩ := sr.obj i _ h rfl
      rw [e] at e'
      cases e'
      have k := r.keys
      refine .dct (vs := vs.map (·.2)) ?_ (by simp) r.vals
      rw [k, zip_unzip]
      exact h2
    · exact .ob e

/-! ### operators, by values -/
abbrev B2 := D → D → Option D
def rD (K : PySem.W.Frag) (ct : String → Addr) (g : B2) : R2 := fun x y H Q => ∃ v dx dy d, v.H = H ∧ SR K ct v ∧ g dx dy = some d ∧ RepT K ct v dx x ∧ RepT K ct v dy y ∧ ∀ z v', Le v v' → SR K ct v' → v'.st = v.st → Rep K ct v'.G v'.m d z → Q z v'.H
def eBin (g : B2) (a b : E) : E := fun δ s => (a δ s).bind fun x s1 => (b δ s1).bind fun y s2 => R.ofO (g (rsv s2 x) (rsv s2 y)) s2
section
variable {X : Cx} {C : Cc} {pos : Pos} {a b c : Expr} {fa fb fc : E} {g : B2}
theorem lift_bin {K : PySem.W.Frag} {σ : L2.St} {H : Hp} {Q : VK} (h : liftE K C (eBin g fa fb) σ H Q) : tOp (rD K C.ct g) (liftE K C fa) (liftE K C fb) σ H Q := by
  obtain ⟨δ, v, re, rfl, h⟩ := h
  refine ⟨δ, v, re, rfl, on_mono (on_bind h) fun d x v1 l1 s1 r1 h1 => ?_⟩
  refine ⟨δ, v1, re.step l1 s1, rfl, on_mono (on_bind h1) fun d2 x2 v2 l2 s2 r2 h2 => ?_⟩
  obtain ⟨z, e, h2⟩ := on_ofO h2
  exact ⟨v2, _, _, z, rfl, s2, e, (l2.rep r1).top s2, r2.top s2, h2⟩
theorem se_bin {op : Operator} (ho : OpR X (binaryOp op) (rD X.K C.ct g)) (ha : SE X C a fa) (hb : SE X C b fb) : SE X C (.BinOp a op b pos) (eBin g fa fb) :=
  pe_weak (pe_op ho ha hb) fun σ H Q h => lift_bin h
theorem se_cmp {op : CmpOp} (ho : OpR X (compareOp op) (rD X.K C.ct g)) (ha : SE X C a fa) (hb : SE X C b fb) (hm : behindInMarks op b = false := by first | exact nomark _ | rfl) : SE X C (.Compare a [op] [b] pos) (eBin g fa fb) :=
  pe_weak (pe_cmpR ho ha hb hm) fun σ H Q h => lift_bin h
/-- a value as a test: a truth -/
def tV (f : E) : T := fun δ s => (f δ s).bind fun d s1 => match d with
  | .bl b => .ok b s1
  | _ => .stk
theorem lift_test {K : PySem.W.Frag} {f : E} {σ : L2.St} {H : Hp} {Q : Bool → Hp → Prop} (h : liftT K C (tV f) σ H Q) : liftE K C f σ H fun v H' => ∃ k, v = .bl k ∧ Q k H' := by
  obtain ⟨δ, v, re, eH, h⟩ := h
  refine ⟨δ, v, re, eH, on_mono (on_bind h) fun d x v1 l1 s1 r1 h1 => ?_⟩
  cases r1 <;> first
    | exact h1.elim
    | exact ⟨_, rfl, on_self s1 h1 rfl⟩
theorem st_cmp {op : CmpOp} (ho : OpR X (compareOp op) (rD X.K C.ct g)) (ha : SE X C a fa) (hb : SE X C b fb) (hm : behindInMarks op b = false := by first | exact nomark _ | rfl) : ST X C (.Compare a [op] [b] pos) (tV (eBin g fa fb)) := by
  refine ⟨fun pins s σ H Q I h => ?_⟩
  refine (pt_cmpR ho ha hb hm).run pins s σ H Q I ?_
  exact lift_bin (Q := fun v H' => ∃ k, v = .bl k ∧ Q k H') (lift_test h)
theorem st_val {e : Expr} {f : E} (h : SE X C e f) (he : ∀ whole, isTrue e X.env whole = (do let v ← whole; standAt e.pos; holding [v] (truthy v)) := by intro _; rfl) : ST X C e (tV f) :=
  pt_weak (pt_val h he) fun σ H Q z => lift_test z
/-- two comparisons in a chain -/
def eChain (g g' : B2) (a b c : E) : E := fun δ s => (a δ s).bind fun x s1 => (b δ s1).bind fun y s2 => (R.ofO (g (rsv s2 x) (rsv s2 y)) s2).bind fun z s3 => match z with
  | .bl true => (c δ s3).bind fun w s4 => R.ofO (g' (rsv s4 y) (rsv s4 w)) s4
  | .bl false => .ok (.bl false) s3
  | _ => .stk
theorem lift_chain {K : PySem.W.Frag} {g' : B2} {σ : L2.St} {H : Hp} {Q : VK} (h : liftE K C (eChain g g' fa fb fc) σ H Q) : tChain (rD K C.ct g) (rD K C.ct g') (liftE K C fa) (liftE K C fb) (liftE K C fc) σ H Q := by
  obtain ⟨δ, v, re, rfl, h⟩ := h
  refine ⟨δ, v, re, rfl, on_mono (on_bind h) fun d x v1 l1 s1 r1 h1 => ?_⟩
  refine ⟨δ, v1, re.step l1 s1, rfl, on_mono (on_bind h1) fun d2 x2 v2 l2 s2 r2 h2 => ?_⟩
  have h3 := on_bind (rel := rE K C.ct) h2
  obtain ⟨z, e, h3⟩ := on_ofO h3
  refine ⟨v2, _, _, z, rfl, s2, e, (l2.rep r1).top s2, r2.top s2, fun x3 v3 l3 s3 e3 r3 => ?_⟩
  have h4 := h3 x3 v3 l3 s3 e3 r3
  cases r3 <;> first
    | exact h4.elim
    | skip
  rename_i k
  refine ⟨k, rfl, ?_⟩
  cases k with
  | true =>
    rw [if_pos rfl]
    refine ⟨δ, v3, ((re.step l1 s1).step l2 s2).step l3 s3, rfl, on_mono (on_bind h4) fun d4 x4 v4 l4 s4 r4 h5 => ?_⟩
    obtain ⟨z, e, h5⟩ := on_ofO h5
    exact ⟨v4, _, _, z, rfl, s4, e, ((l3.trans l4).rep r2).top s4, r4.top s4, h5⟩
  | false =>
    rw [if_neg Bool.false_ne_true]
    exact on_self s3 h4 (.bl false)
theorem se_chain {op op' : CmpOp} {g' : B2} (ho : OpR X (compareOp op) (rD X.K C.ct g)) (ho' : OpR X (compareOp op') (rD X.K C.ct g')) (ha : SE X C a fa) (hb : SE X C b fb) (hc : SE X C c fc)
    (hm : lastMarks [op, op'] [b, c] = false := by with_unfolding_all rfl) : SE X C (.Compare a [op, op'] [b, c] pos) (eChain g g' fa fb fc) :=
  pe_weak (pe_chain ho ho' ha hb hc hm) fun σ H Q h => lift_chain h
theorem st_chain {op op' : CmpOp} {g' : B2} (ho : OpR X (compareOp op) (rD X.K C.ct g)) (ho' : OpR X (compareOp op') (rD X.K C.ct g')) (ha : SE X C a fa) (hb : SE X C b fb) (hc : SE X C c fc)
    (hm : lastMarks [op, op'] [b, c] = false := by with_unfolding_all rfl) : ST X C (.Compare a [op, op'] [b, c] pos) (tV (eChain g g' fa fb fc)) := by
  refine ⟨fun pins s σ H Q I h => ?_⟩
  refine (pt_chain ho ho' ha hb hc hm).run pins s σ H Q I ?_
  exact lift_chain (Q := fun v H' => ∃ k, v = .bl k ∧ Q k H') (lift_test h)

/-! ### not, and, or -/
def tNt (f : T) : T := fun δ s => (f δ s).bind fun b s1 => .ok (!b) s1
def tAn (f g : T) : T := fun δ s => (f δ s).bind fun b s1 => if b = true then g δ s1 else .ok false s1
def tOrr (f g : T) : T := fun δ s => (f δ s).bind fun b s1 => if b = true then .ok true s1 else g δ s1
theorem st_not {ft : T} (h : ST X C a ft) : ST X C (.UnaryOp .Not a pos) (tNt ft) := pt_weak (pt_not h) fun σ H Q ⟨δ, v, re, eH, h⟩ =>
  ⟨δ, v, re, eH, on_mono (on_bind h) fun b k v1 l1 s1 e h1 => by cases e; exact on_self s1 h1 rfl⟩
theorem lift_and {K : PySem.W.Frag} {ft gt : T} {σ : L2.St} {H : Hp} {Q : Bool → Hp → Prop} (h : liftT K C (tAn ft gt) σ H Q) : tAnd (liftT K C ft) (liftT K C gt) σ H Q := by
  obtain ⟨δ, v, re, eH, h⟩ := h
  refine ⟨δ, v, re, eH, on_mono (on_bind h) fun b k v1 l1 s1 e h1 => ?_⟩
  cases e
  cases b with
  | true => exact ⟨δ, v1, re.step l1 s1, rfl, h1⟩
  | false => exact on_self s1 h1 rfl
theorem lift_or {K : PySem.W.Frag} {ft gt : T} {σ : L2.St} {H : Hp} {Q : Bool → Hp → Prop} (h : liftT K C (tOrr ft gt) σ H Q) : tOr (liftT K C ft) (liftT K C gt) σ H Q := by
  obtain ⟨δ, v, re, eH, h⟩ := h
  refine ⟨δ, v, re, eH, on_mono (on_bind h) fun b k v1 l1 s1 e h1 => ?_⟩
  cases e
  cases b with
  | true => exact on_self s1 h1 rfl
  | false => exact ⟨δ, v1, re.step l1 s1, rfl, h1⟩
end
/-- tests whose whole is theirs (and, or) -/
abbrev SW (X : Cx) (C : Cc) (e : Expr) (f : T) : Prop := PW X e (liftT X.K C f)
section
variable {X : Cx} {C : Cc} {pos : Pos} {a : Expr} {rest : List Expr} {ft gt : T}
theorem sw_and1 (ha : ST X C a ft) : SW X C (.BoolOp .And [a] pos) ft := pw_and1 ha
theorem sw_and {b : Expr} (ha : ST X C a ft) (hr : SW X C (.BoolOp .And (b :: rest) pos) gt) : SW X C (.BoolOp .And (a :: b :: rest) pos) (tAn ft gt) := pw_weak (pw_and ha hr) fun σ H Q h => lift_and h
theorem sw_or1 (ha : ST X C a ft) : SW X C (.BoolOp .Or [a] pos) ft := pw_or1 ha
theorem sw_or {b : Expr} (ha : ST X C a ft) (hr : SW X C (.BoolOp .Or (b :: rest) pos) gt) : SW X C (.BoolOp .Or (a :: b :: rest) pos) (tOrr ft gt) := pw_weak (pw_or ha hr) fun σ H Q h => lift_or h
end
/-! ### and, or, not as values (truths) -/
def eAn (a b : E) : E := fun δ s => (a δ s).bind fun x s1 => match x with
  | .bl true => b δ s1
  | .bl false => .ok (.bl false) s1
  | _ => .stk
def eOr (a b : E) : E := fun δ s => (a δ s).bind fun x s1 => match x with
  | .bl true => .ok (.bl true) s1
  | .bl false => b δ s1
  | _ => .stk
def eNt (a : E) : E := fun δ s => (a δ s).bind fun x s1 => match x with
  | .bl k => .ok (.bl !k) s1
  | _ => .stk
section
variable {X : Cx} {C : Cc} {pos : Pos} {a b c : Expr} {fa fb fc : E} {ft : T} {rest : List Expr}
theorem lift_anV {K : PySem.W.Frag} {σ : L2.St} {H : Hp} {Q : VK} (h : liftE K C (eAn fa fb) σ H Q) : tAndV (liftE K C fa) (liftE K C fb) σ H Q := by
  obtain ⟨δ, v, re, eH, h⟩ := h
  refine ⟨δ, v, re, eH, on_mono (on_bind h) fun d x v1 l1 s1 r1 h1 => ?_⟩
  cases r1 <;> first
    | exact h1.elim
    | skip
  rename_i k
  refine ⟨k, rfl, ?_⟩
  cases k with
  | true => exact ⟨δ, v1, re.step l1 s1, rfl, h1⟩
  | false => exact on_self s1 h1 (.bl false)
theorem lift_orV {K : PySem.W.Frag} {σ : L2.St} {H : Hp} {Q : VK} (h : liftE K C (eOr fa fb) σ H Q) : tOrV (liftE K C fa) (liftE K C fb) σ H Q := by
  obtain ⟨δ, v, re, eH, h⟩ := h
  refine ⟨δ, v, re, eH, on_mono (on_bind h) fun d x v1 l1 s1 r1 h1 => ?_⟩
  cases r1 <;> first
    | exact h1.elim
    | skip
  rename_i k
  refine ⟨k, rfl, ?_⟩
  cases k with
  | true => exact on_self s1 h1 (.bl true)
  | false => exact ⟨δ, v1, re.step l1 s1, rfl, h1⟩
theorem lift_nt {K : PySem.W.Frag} {σ : L2.St} {H : Hp} {Q : VK} (h : liftE K C (eNt fa) σ H Q) : tNotV (liftE K C fa) σ H Q := by
  obtain ⟨δ, v, re, eH, h⟩ := h
  refine ⟨δ, v, re, eH, on_mono (on_bind h) fun d x v1 l1 s1 r1 h1 => ?_⟩
  cases r1 <;> first
    | exact h1.elim
    | exact ⟨_, rfl, on_self s1 h1 (.bl _)⟩
theorem se_nt (ha : SE X C a fa) : SE X C (.UnaryOp .Not a pos) (eNt fa) := pe_weak (pe_not ha) fun σ H Q h => lift_nt h
theorem se_one {op : BoolOp} (ha : SE X C a fa) : SE X C (.BoolOp op [a] pos) fa := pe_one ha
theorem se_and (ha : SE X C a fa) (hb : SE X C (.BoolOp .And (b :: rest) pos) fb) : SE X C (.BoolOp .And (a :: b :: rest) pos) (eAn fa fb) := pe_weak (pe_and ha hb) fun σ H Q h => lift_anV h
theorem se_or (ha : SE X C a fa) (hb : SE X C (.BoolOp .Or (b :: rest) pos) fb) : SE X C (.BoolOp .Or (a :: b :: rest) pos) (eOr fa fb) := pe_weak (pe_or ha hb) fun σ H Q h => lift_orV h
/-- a if t else b -/
def eIf (t : T) (a b : E) : E := fun δ s => (t δ s).bind fun k s1 => if k = true then a δ s1 else b δ s1
theorem se_if (ht : ST X C c ft) (ha : SE X C a fa) (hb : SE X C b fb) : SE X C (.IfExp c a b pos) (eIf ft fa fb) := pe_weak (pe_ifExp ht ha hb) fun σ H Q ⟨δ, v, re, eH, h⟩ => by
  refine ⟨δ, v, re, eH, on_mono (on_bind h) fun b k v1 l1 s1 e h1 => ?_⟩
  cases e
  cases b with
  | true => exact ⟨δ, v1, re.step l1 s1, rfl, h1⟩
  | false => exact ⟨δ, v1, re.step l1 s1, rfl, h1⟩
end

/-! ### arguments, displays -/
def aNil : As := fun _ s => .ok [] s
def aCons (f : E) (r : As) : As := fun δ s => (f δ s).bind fun x s1 => (r δ s1).bind fun xs s2 => .ok (x :: xs) s2
def eTup (r : As) : E := fun δ s => (r δ s).bind fun xs s1 => if xs.length ≤ sizeLine then .ok (.tup xs) s1 else .stk
/-- a written list, frozen at once -/
def eLst (r : As) : E := fun δ s => (r δ s).bind fun xs s1 => if xs.length ≤ sizeLine then .ok (.lst xs) s1 else .stk
/-- a written list, a thing of the store -/
def eNew (r : As) : E := fun δ s => (r δ s).bind fun xs s1 => if xs.length ≤ sizeLine then .ok (.ob s1.length) (s1 ++ [.lst xs]) else .stk
section
variable {X : Cx} {C : Cc} {pos : Pos} {e : Expr} {es : List Expr} {f : E} {r : As}
theorem sa_nil : SA X C [] aNil := pa_weak pa_nil fun σ H Q ⟨δ, v, re, eH, h⟩ => by subst eH; exact on_self (b := []) re.sr h .nil
theorem sa_cons (ha : SE X C e f) (hr : SA X C es r) (hs : starEach (e :: es) X.env = (false, eval e X.env) :: starEach es X.env := by rfl) : SA X C (e :: es) (aCons f r) :=
  pa_weak (pa_cons ha hr hs) fun σ H Q ⟨δ, v, re, eH, h⟩ => ⟨δ, v, re, eH, on_mono (on_bind h) fun d x v1 l1 s1 r1 h1 =>
    ⟨δ, v1, re.step l1 s1, rfl, on_mono (on_bind h1) fun ds xs v2 l2 s2 r2 h2 => on_self (b := x :: xs) s2 h2 (.cons (l2.rep r1) r2)⟩⟩
theorem se_tup {k : Nat} (h : SA X C es r) : SE X C (.Tuple es k pos) (eTup r) := pe_weak (pe_tup h) fun σ H Q ⟨δ, v, re, eH, h⟩ =>
  ⟨δ, v, re, eH, on_mono (on_bind h) fun ds vs v1 l1 s1 r1 h1 => by
    have hl := r1.length
    split at h1
    · rename_i z
      refine ⟨by omega, fun p hp => ?_⟩
      obtain ⟨l2, s2⟩ := new_ok (o := .tup vs) s1 hp
      exact h1 (.ref p) _ l2 s2 rfl (.tup (SqT.of upd_same) (l2.repl r1))
    · exact h1.elim⟩
theorem se_lst (h : SA X C es r) : SE X C (.List es pos) (eLst r) := pe_weak (pe_lst h) fun σ H Q ⟨δ, v, re, eH, h⟩ =>
  ⟨δ, v, re, eH, on_mono (on_bind h) fun ds vs v1 l1 s1 r1 h1 => by
    have hl := r1.length
    split at h1
    · rename_i z
      refine ⟨by omega, fun p hp => ?_⟩
      obtain ⟨l2, s2⟩ := new_ok (o := .lst vs) s1 hp
      exact h1 (.ref p) _ l2 s2 rfl (.lst (SqL.of upd_same) (l2.repl r1))
    · exact h1.elim⟩
/-- a new list of the store at p -/
theorem newL_ok {K : PySem.W.Frag} {ct : String → Addr} {v : Vw} {p : Addr} {ds : List D} {vs : List V} (s : SR K ct v) (hp : v.H p = none) (r : RepL K ct v.G v.m ds vs) :
    Le v (v.alloc p (upd v.H p (.lst vs)) (.lst ds)) ∧ SR K ct (v.alloc p (upd v.H p (.lst vs)) (.lst ds)) :=
  alloc_ok s hp (same_new hp _) (fun C b fs q => by rw [upd_same] at q; cases q) ⟨vs, upd_same, r.mono (Same.refl _) (mset_grow (s.dom _ (Nat.le_refl _)))⟩
theorem se_new (h : SA X C es r) : SE X C (.List es pos) (eNew r) := pe_weak (pe_lst h) fun σ H Q ⟨δ, v, re, eH, h⟩ =>
  ⟨δ, v, re, eH, on_mono (on_bind h) fun ds vs v1 l1 s1 r1 h1 => by
    have hl := r1.length
    split at h1
    · rename_i z
      refine ⟨by omega, fun p hp => ?_⟩
      obtain ⟨l2, s2⟩ := newL_ok s1 hp r1
      exact h1 (.ref p) _ l2 s2 rfl (.ob mset_same)
    · exact h1.elim⟩
end
end Gs

/-! G3: operators, built-in functions, items and slices over data. -/
namespace Gs
open PySem L2

/-! ### data that == takes -/
mutual
def toPy : D → Option PyData
  | .non => some .none
  | .bl b => some (.bool b)
  | .int i => some (.int i)
  | .str x => some (.str x)
  | .fn _ => none
  | .dct _ _ => none
  | .ob _ => none
  | .ev _ _ _ => none
  | .clo _ _ => none
  | .tup xs => (toPyL xs).map .tuple
  | .lst xs => (toPyL xs).map .list
def toPyL : List D → Option (List PyData)
  | [] => some []
  | d :: ds => match toPy d, toPyL ds with
    | some p, some ps => some (p :: ps)
    | _, _ => none
end
mutual
theorem Rep.dp {K : PySem.W.Frag} {ct : String → Addr} {G H : Hp} {m : Nat → Option Addr} (sub : Same G H) : ∀ {d : D} {v : V} {p : PyData}, Rep K ct G m d v → toPy d = some p → Dp K H v p
  | _, _, _, .non, e => by simp only [toPy, Option.some.injEq] at e; subst e; exact .non
  | _, _, _, .bl b, e => by simp only [toPy, Option.some.injEq] at e; subst e; exact .bl b
  | _, _, _, .int i, e => by simp only [toPy, Option.some.injEq] at e; subst e; exact .int i
  | _, _, _, .str x, e => by simp only [toPy, Option.some.injEq] at e; subst e; exact .str x
  | _, _, _, .fn a, e => by simp only [toPy] at e; exact nomatch e
  | _, _, _, .ob _, e => by simp only [toPy] at e; exact nomatch e
  | _, _, _, .ev0 _, e => by simp only [toPy] at e; exact nomatch e
  | _, _, _, .ev _ _ _ _ _, e => by simp only [toPy] at e; exact nomatch e
  | _, _, _, .dct h l r, e => by simp only [toPy] at e; exact nomatch e
  | _, _, _, .clo _ _ _ _ _, e => by simp only [toPy] at e; exact nomatch e
  | .tup ds, _, _, .tup h r, e => by
    simp only [toPy] at e
    cases q : toPyL ds with
    | none => rw [q] at e; exact nomatch e
    | some ps =>
      rw [q] at e
      simp only [Option.map_some, Option.some.injEq] at e
      subst e
      exact .tup (sqt_mono sub h) (RepL.dp sub r q)
  | .lst ds, _, _, .lst h r, e => by
    simp only [toPy] at e
    cases q : toPyL ds with
    | none => rw [q] at e; exact nomatch e
    | some ps =>
      rw [q] at e
      simp only [Option.map_some, Option.some.injEq] at e
      subst e
      exact .lst (sub.seq h) (RepL.dp sub r q)
theorem RepL.dp {K : PySem.W.Frag} {ct : String → Addr} {G H : Hp} {m : Nat → Option Addr} (sub : Same G H) : ∀ {ds : List D} {vs : List V} {ps : List PyData}, RepL K ct G m ds vs → toPyL ds = some ps → DpAll K H vs ps
  | _, _, _, .nil, e => by simp only [toPyL, Option.some.injEq] at e; subst e; exact .nil
  | d :: ds, _, _, .cons h r, e => by
    simp only [toPyL] at e
    cases q : toPy d with
    | none => rw [q] at e; simp at e
    | some p =>
      cases q2 : toPyL ds with
      | none => rw [q, q2] at e; simp at e
      | some ps =>
        rw [q, q2] at e
        simp only [Option.some.injEq] at e
        subst e
        exact .cons (Rep.dp sub h q) (RepL.dp sub r q2)
end
theorem RepT.dp {K : PySem.W.Frag} {ct : String → Addr} {v : Vw} (sr : SR K ct v) {d : D} {x : V} {p : PyData} (r : RepT K ct v d x) (e : toPy d = some p) : Dp K v.H x p := by
  cases r with
  | non => exact (Rep.non (K := K) (ct := ct) (m := v.m)).dp sr.sub e
  | bl b => exact (Rep.bl (K := K) (ct := ct) (m := v.m) b).dp sr.sub e
  | int b => exact (Rep.int (K := K) (ct := ct) (m := v.m) b).dp sr.sub e
  | str b => exact (Rep.str (K := K) (ct := ct) (m := v.m) b).dp sr.sub e
  | fn s => simp only [toPy] at e; exact nomatch e
  | ob h => simp only [toPy] at e; exact nomatch e
  | ev h => simp only [toPy] at e; exact nomatch e
  | clo h => simp only [toPy] at e; exact nomatch e
  | dct h l r => simp only [toPy] at e; exact nomatch e
  | tup h r => exact (Rep.tup h r).dp sr.sub e
  | @lst a vs ds h r =>
    simp only [toPy] at e
    cases q : toPyL ds with
    | none => rw [q] at e; exact nomatch e
    | some ps =>
      rw [q] at e
      simp only [Option.map_some, Option.some.injEq] at e
      subst e
      exact .lst h (RepL.dp sr.sub r q)

/-! ### operators -/
def gAdd : B2
  | .int i, .int j => some (.int (i + j))
  | .str x, .str y => if x.length + y.length ≤ sizeLine then some (.str (x ++ y)) else none
  | .lst xs, .lst ys => if xs.length + ys.length ≤ sizeLine then some (.lst (xs ++ ys)) else none
  | .tup xs, .tup ys => if xs.length + ys.length ≤ sizeLine then some (.tup (xs ++ ys)) else none
  | _, _ => none
def gSub : B2
  | .int i, .int j => some (.int (i - j))
  | _, _ => none
instance {i j : Int} : Decidable (IntMulOk i j) := by unfold IntMulOk; infer_instance
/-- a text so often -/
def repS (x : Str) (j : Int) : Str := ⟨(List.replicate j.toNat x.cps.toList).flatten.toArray⟩
def gMul : B2
  | .int i, .int j => if IntMulOk i j then some (.int (i * j)) else none
  | .str x, .int j => if 0 ≤ j ∧ j ≤ 100000 ∧ x.length ≤ 1000 ∧ x.length * j.toNat ≤ 100000 then some (.str (repS x j)) else none
  | _, _ => none
def gDiv : B2
  | .int i, .int j => if 0 < j ∧ j.natAbs.log2 < 9000 then some (.int (i / j)) else none
  | _, _ => none
def gMod : B2
  | .int i, .int j => if 0 < j then some (.int (i % j)) else none
  | _, _ => none
def gPow : B2
  | .int i, .int j => if 0 ≤ j ∧ (Builtin.Int.intBits i : Int) * j ≤ 2 ^ 27 then some (.int (i ^ j.toNat)) else none
  | _, _ => none
def gShl : B2
  | .int i, .int j => if 0 ≤ j ∧ (Builtin.Int.intBits i : Int) + j ≤ 2 ^ 27 then some (.int (i * 2 ^ j.toNat)) else none
  | _, _ => none
def gShr : B2
  | .int i, .int j => if 0 ≤ j then some (.int (i / 2 ^ j.toNat)) else none
  | _, _ => none
def gLt : B2
  | .int i, .int j => some (.bl (decide (i < j)))
  | .str x, .str y => some (.bl (decide (x.cps.toList < y.cps.toList)))
  | _, _ => none
def gLe : B2
  | .int i, .int j => some (.bl (decide (i ≤ j)))
  | _, _ => none
def gGt : B2
  | .int i, .int j => some (.bl (decide (j < i)))
  | _, _ => none
def gGe : B2
  | .int i, .int j => some (.bl (decide (j ≤ i)))
  | _, _ => none
def eqPy (x y : D) : Option Bool := match toPy x, toPy y with
  | some p, some q => if SeqAt.shaped p && SeqAt.shaped q then some (PyData.eqv p q) else none
  | _, _ => none
def eqO : D → D → Option Bool
  | .int i, .int j => some (decide (i = j))
  | .str x, .str y => some (decide (x = y))
  | .bl x, .bl y => some (decide (x = y))
  | .non, .non => some true
  | .non, .str _ => some false
  | .str _, .non => some false
  | .int _, .str _ => some false
  | .str _, .int _ => some false
  | .non, .int _ => some false
  | .int _, .non => some false
  | x, y => eqPy x y
def gEq : B2 := fun x y => (eqO x y).map .bl
def gNe : B2 := fun x y => (eqO x y).map fun b => .bl !b
def gIsN : B2
  | x, .non => some (.bl (match x with | .non => true | _ => false))
  | _, _ => none
def gNotN : B2
  | x, .non => some (.bl (match x with | .non => false | _ => true))
  | _, _ => none

section
variable {X : Cx} {ct : String → Addr}
theorem op_none {f : Value → Value → Sem Value} {r : R2} : OpR X f r → OpR X f r := id
theorem o_add : OpR X (binaryOp .Add) (rD X.K ct gAdd) := by
  intro pins s σ H x y v u Q I rx ry h
  obtain ⟨v0, dx, dy, d, rfl, sr, e, r1, r2, h⟩ := h
  cases r1 with
  | int i =>
    cases r2 <;> simp only [gAdd, Option.some.injEq, reduceCtorEq] at e
    subst e
    exact op_add pins s σ _ _ _ v u Q I rx ry ⟨_, _, rfl, rfl, h _ v0 .refl sr rfl (.int _)⟩
  | str z =>
    cases r2 <;> simp only [gAdd, reduceCtorEq] at e
    split at e
    · rename_i hz
      simp only [Option.some.injEq] at e
      subst e
      exact op_add_str pins s σ _ _ _ v u Q I rx ry ⟨_, _, rfl, rfl, hz, h _ v0 .refl sr rfl (.str _)⟩
    · exact nomatch e
  | non => cases r2 <;> simp only [gAdd, reduceCtorEq] at e
  | bl b => cases r2 <;> simp only [gAdd, reduceCtorEq] at e
  | fn a => cases r2 <;> simp only [gAdd, reduceCtorEq] at e
  | ob a => cases r2 <;> simp only [gAdd, reduceCtorEq] at e
  | ev a => cases r2 <;> simp only [gAdd, reduceCtorEq] at e
  | clo a => cases r2 <;> simp only [gAdd, reduceCtorEq] at e
  | dct p l q => cases r2 <;> simp only [gAdd, reduceCtorEq] at e
  | tup p q =>
    cases r2 <;> simp only [gAdd, reduceCtorEq] at e
    rename_i p2 q2
    split at e
    · rename_i hz
      simp only [Option.some.injEq] at e
      subst e
      have l1 := q.length
      have l2 := q2.length
      refine op_catA pins s σ _ _ _ v u Q I rx ry ⟨_, _, _, _, rfl, rfl, sqt_mono sr.sub p, sqt_mono sr.sub p2, by omega, fun z => ?_, fun z1 z2 => ?_, fun z1 z2 c hc => ?_⟩
      · subst z
        cases q
        exact h _ v0 .refl sr rfl (.tup p2 q2)
      · subst z2
        cases q2
        rw [List.append_nil] at h
        exact h _ v0 .refl sr rfl (.tup p q)
      · obtain ⟨l, s2⟩ := new_ok (o := .tup _) sr hc
        exact h _ _ l s2 rfl (.tup (SqT.of upd_same) (RepL.append (l.repl q) (l.repl q2)))
    · exact nomatch e
  | lst p q =>
    cases r2 <;> simp only [gAdd, reduceCtorEq] at e
    rename_i a1 vs1 ds1 a2 vs2 ds2 p2 q2
    split at e
    · rename_i hz
      simp only [Option.some.injEq] at e
      subst e
      cases rx
      cases ry
      have l1 := q.length
      have l2 := q2.length
      obtain ⟨is1, t1, ⟨⟨c1, d1, b1, s1⟩, n1, ho1, hc1, hd1, hs1⟩, z1⟩ := I.list (p)
      obtain ⟨is2, t2, ⟨⟨c2, d2, b2, s2⟩, n2, ho2, hc2, hd2, hs2⟩, z2⟩ := I.list (p2)
      simp only at hc1 hd1 hs1 hc2 hd2 hs2
      subst hc1 hd1 hs1 hc2 hd2 hs2
      have m1 := t1.length
      have m2 := t2.length
      refine concat_meets ⟨_, ho1, rfl⟩ ⟨_, ho2, rfl⟩ noFill_list_add seq_list_add PySem.F.slot_list_add PySem.F.entry_list_add (PySem.F.args_list_add_2 _ _) (PyProof.Rows.list_addW _ _ is1.toArray is2.toArray n1 n2 _ _ s1 s2 (by simp only [List.size_toArray]; omega)) ⟨ho1, ho2, ?_⟩
      rw [show is1.toArray ++ is2.toArray = (is1 ++ is2).toArray by simp]
      have hf := I.fresh
      obtain ⟨l, s2⟩ := new_ok (o := .lst (vs1 ++ vs2)) sr hf
      exact ⟨.ref _, _, I.lnew (t' := s.toks) (t1.append t2) (by simp only [List.length_append]; omega), rfl, h _ _ l s2 rfl (.lst (SqL.of upd_same) (RepL.append (l.repl q) (l.repl q2)))⟩
    · exact nomatch e
theorem o_sub : OpR X (binaryOp .Sub) (rD X.K ct gSub) := by
  intro pins s σ H x y v u Q I rx ry h
  obtain ⟨v0, dx, dy, d, rfl, sr, e, r1, r2, h⟩ := h
  unfold gSub at e
  split at e
  case h_2 => exact nomatch e
  cases r1
  cases r2
  simp only [Option.some.injEq] at e
  subst e
  exact op_sub pins s σ _ _ _ v u Q I rx ry ⟨_, _, rfl, rfl, h _ v0 .refl sr rfl (.int _)⟩
theorem rep_flat (x : Array Nat) : ∀ (n : Nat) (acc : Array Nat), (List.replicate n x).foldl (· ++ ·) acc = (acc.toList ++ (List.replicate n x.toList).flatten).toArray
  | 0, acc => by simp
  | n + 1, acc => by
    rw [List.replicate_succ, List.foldl_cons, rep_flat x n, List.replicate_succ, List.flatten_cons]
    simp
theorem rep_len (x : Str) (j : Int) : (repS x j).length = x.length * j.toNat := by
  unfold repS
  show (List.replicate j.toNat x.cps.toList).flatten.toArray.size = x.cps.size * j.toNat
  rw [List.size_toArray, List.length_flatten, List.map_replicate, Array.length_toList]
  generalize x.cps.size = a
  generalize j.toNat = n
  induction n with
  | zero => simp
  | succ n ih => rw [List.replicate_succ, List.sum_cons, ih, Nat.mul_succ, Nat.add_comm]
theorem rep_one (x : Str) : repS x 1 = x := by
  unfold repS
  simp
theorem rep_zero (x : Str) : repS x 0 = Str.empty := by
  unfold repS
  rfl
theorem rep_nil (x : Str) (j : Int) (h : x.length = 0) : repS x j = x := by
  have e : x.cps.toList = [] := List.length_eq_zero_iff.mp (by simpa [Str.length] using h)
  have e2 : x = ⟨[].toArray⟩ := by rw [← e]
  unfold repS
  rw [e]
  have : (List.replicate j.toNat ([] : List Nat)).flatten = [] := by simp
  rw [this, ← e2]
theorem o_mul : OpR X (binaryOp .Mult) (rD X.K ct gMul) := by
  intro pins s σ H x y v u Q I rx ry h
  obtain ⟨v0, dx, dy, d, rfl, sr, e, r1, r2, h⟩ := h
  cases r1 <;> cases r2 <;> simp only [gMul, reduceCtorEq] at e
  · split at e
    · rename_i hc
      simp only [Option.some.injEq] at e
      subst e
      obtain ⟨t, rfl⟩ := rx
      obtain ⟨t', rfl⟩ := ry
      exact PyProof.Rows.mul_int ⟨.int _, _, I.tok _, ⟨_, rfl⟩, h _ v0 .refl sr rfl (.int _)⟩ hc
    · exact nomatch e
  · rename_i z j
    split at e
    · rename_i hc
      simp only [Option.some.injEq] at e
      subst e
      obtain ⟨t, rfl⟩ := rx
      obtain ⟨t', rfl⟩ := ry
      obtain ⟨h0, h1, h2, h3⟩ := hc
      have hs : (100000 : Nat) ≤ sizeLine := by decide
      have c1 : ∀ t', EP X pins σ Q (Value.str (repS z j) t') { s with toks := s.toks + 1 } := fun t' => ⟨.str _, _, I.tok _, ⟨_, rfl⟩, h _ v0 .refl sr rfl (.str _)⟩
      refine PySem.P.mul_str (by rw [decide_eq_false (by omega), decide_eq_false (by omega)]; rfl) (fun a b => ?_) (fun a b => ?_) ?_
      · have : (1000 : Int) ≤ (2 ^ 63 - 1) / j := Int.le_ediv_of_mul_le (by omega) (by omega)
        omega
      · unfold Builtin.Str.tooLong
        exact decide_eq_false (by omega)
      · by_cases a : j < 1
        · rw [if_pos a]
          have : j = 0 := by omega
          subst this
          have c1 := c1 s.toks
          rw [rep_zero] at c1
          exact ⟨by decide, c1⟩
        · rw [if_neg a]
          by_cases b : (j == 1 || z.length == 0) = true
          · rw [if_pos b]
            have e : repS z j = z := by
              rw [Bool.or_eq_true] at b
              rcases b with b | b
              · have : j = 1 := by simpa using b
                subst this
                exact rep_one z
              · exact rep_nil z j (by simpa using b)
            have g : EP X pins σ Q (Value.str z t) s := ⟨.str z, _, I, ⟨_, rfl⟩, by
              have := h (.str (repS z j)) v0 .refl sr rfl (.str _)
              rwa [e] at this⟩
            exact g
          · rw [if_neg b]
            have e : (⟨(List.replicate j.toNat z.cps).foldl (· ++ ·) #[]⟩ : Str) = repS z j := by
              unfold repS
              rw [rep_flat]
              simp
            rw [e]
            exact ⟨by rw [rep_len]; omega, c1 s.toks⟩
    · exact nomatch e
theorem o_div : OpR X (binaryOp .FloorDiv) (rD X.K ct gDiv) := by
  intro pins s σ H x y v u Q I rx ry h
  obtain ⟨v0, dx, dy, d, rfl, sr, e, r1, r2, h⟩ := h
  unfold gDiv at e
  split at e
  case h_2 => exact nomatch e
  cases r1
  cases r2
  split at e
  · rename_i hc
    simp only [Option.some.injEq] at e
    subst e
    exact op_fdivW pins s σ _ _ _ v u Q I rx ry ⟨_, _, rfl, rfl, hc, h _ v0 .refl sr rfl (.int _)⟩
  · exact nomatch e
theorem o_mod : OpR X (binaryOp .Mod) (rD X.K ct gMod) := by
  intro pins s σ H x y v u Q I rx ry h
  obtain ⟨v0, dx, dy, d, rfl, sr, e, r1, r2, h⟩ := h
  unfold gMod at e
  split at e
  case h_2 => exact nomatch e
  cases r1
  cases r2
  split at e
  · rename_i hc
    simp only [Option.some.injEq] at e
    subst e
    exact op_mod pins s σ _ _ _ v u Q I rx ry ⟨_, _, rfl, rfl, hc, h _ v0 .refl sr rfl (.int _)⟩
  · exact nomatch e
theorem op_powW : OpR X (binaryOp .Pow) (rI (fun i j => 0 ≤ j ∧ (Builtin.Int.intBits i : Int) * j ≤ 2 ^ 27) fun i j => .int (i ^ j.toNat)) := opI fun _ _ _ _ _ _ _ hc q => PyProof.Rows.pow_int hc.1 hc.2 q
theorem o_pow : OpR X (binaryOp .Pow) (rD X.K ct gPow) := by
  intro pins s σ H x y v u Q I rx ry h
  obtain ⟨v0, dx, dy, d, rfl, sr, e, r1, r2, h⟩ := h
  unfold gPow at e
  split at e
  case h_2 => exact nomatch e
  cases r1
  cases r2
  split at e
  · rename_i hc
    simp only [Option.some.injEq] at e
    subst e
    exact op_powW pins s σ _ _ _ v u Q I rx ry ⟨_, _, rfl, rfl, hc, h _ v0 .refl sr rfl (.int _)⟩
  · exact nomatch e
theorem o_shl : OpR X (binaryOp .LShift) (rD X.K ct gShl) := by
  intro pins s σ H x y v u Q I rx ry h
  obtain ⟨v0, dx, dy, d, rfl, sr, e, r1, r2, h⟩ := h
  unfold gShl at e
  split at e
  case h_2 => exact nomatch e
  cases r1
  cases r2
  split at e
  · rename_i hc
    simp only [Option.some.injEq] at e
    subst e
    exact op_shlW pins s σ _ _ _ v u Q I rx ry ⟨_, _, rfl, rfl, hc, h _ v0 .refl sr rfl (.int _)⟩
  · exact nomatch e
theorem o_shr : OpR X (binaryOp .RShift) (rD X.K ct gShr) := by
  intro pins s σ H x y v u Q I rx ry h
  obtain ⟨v0, dx, dy, d, rfl, sr, e, r1, r2, h⟩ := h
  unfold gShr at e
  split at e
  case h_2 => exact nomatch e
  cases r1
  cases r2
  split at e
  · rename_i hc
    simp only [Option.some.injEq] at e
    subst e
    exact op_shr pins s σ _ _ _ v u Q I rx ry ⟨_, _, rfl, rfl, hc, h _ v0 .refl sr rfl (.int _)⟩
  · exact nomatch e
theorem o_lt : OpR X (compareOp .Lt) (rD X.K ct gLt) := by
  intro pins s σ H x y v u Q I rx ry h
  obtain ⟨v0, dx, dy, d, rfl, sr, e, r1, r2, h⟩ := h
  unfold gLt at e
  split at e
  case h_3 => exact nomatch e
  all_goals cases r1
  all_goals cases r2
  all_goals simp only [Option.some.injEq] at e
  · subst e
    exact op_lt pins s σ _ _ _ v u Q I rx ry ⟨_, _, rfl, rfl, h _ v0 .refl sr rfl (.bl _)⟩
  · subst e
    exact op_lt_str pins s σ _ _ _ v u Q I rx ry ⟨_, _, rfl, rfl, h _ v0 .refl sr rfl (.bl _)⟩
theorem o_le : OpR X (compareOp .LtE) (rD X.K ct gLe) := by
  intro pins s σ H x y v u Q I rx ry h
  obtain ⟨v0, dx, dy, d, rfl, sr, e, r1, r2, h⟩ := h
  unfold gLe at e
  split at e
  case h_2 => exact nomatch e
  cases r1
  cases r2
  simp only [Option.some.injEq] at e
  subst e
  exact op_le pins s σ _ _ _ v u Q I rx ry ⟨_, _, rfl, rfl, h _ v0 .refl sr rfl (.bl _)⟩
theorem o_gt : OpR X (compareOp .Gt) (rD X.K ct gGt) := by
  intro pins s σ H x y v u Q I rx ry h
  obtain ⟨v0, dx, dy, d, rfl, sr, e, r1, r2, h⟩ := h
  unfold gGt at e
  split at e
  case h_2 => exact nomatch e
  cases r1
  cases r2
  simp only [Option.some.injEq] at e
  subst e
  exact op_gt pins s σ _ _ _ v u Q I rx ry ⟨_, _, rfl, rfl, h _ v0 .refl sr rfl (.bl _)⟩
theorem o_ge : OpR X (compareOp .GtE) (rD X.K ct gGe) := by
  intro pins s σ H x y v u Q I rx ry h
  obtain ⟨v0, dx, dy, d, rfl, sr, e, r1, r2, h⟩ := h
  unfold gGe at e
  split at e
  case h_2 => exact nomatch e
  cases r1
  cases r2
  simp only [Option.some.injEq] at e
  subst e
  exact op_ge pins s σ _ _ _ v u Q I rx ry ⟨_, _, rfl, rfl, h _ v0 .refl sr rfl (.bl _)⟩
/-- both sides of == and != -/
theorem eq_core {K : PySem.W.Frag} {ct : String → Addr} {v : Vw} (sr : SR K ct v) {dx dy : D} {x y : V} {b : Bool} (r1 : RepT K ct v dx x) (r2 : RepT K ct v dy y) (e : eqO dx dy = some b) :
    (scal x y = true ∧ decide (x = y) = b) ∨ ∃ p q, Dp K v.H x p ∧ Dp K v.H y q ∧ SeqAt.shaped p = true ∧ SeqAt.shaped q = true ∧ PyData.eqv p q = b := by
  have gen : eqPy dx dy = some b → ∃ p q, Dp K v.H x p ∧ Dp K v.H y q ∧ SeqAt.shaped p = true ∧ SeqAt.shaped q = true ∧ PyData.eqv p q = b := fun e => by
    unfold eqPy at e
    cases q1 : toPy dx with
    | none => rw [q1] at e; exact nomatch e
    | some p =>
      cases q2 : toPy dy with
      | none => rw [q1, q2] at e; exact nomatch e
      | some q =>
        rw [q1, q2] at e
        simp only at e
        split at e
        · rename_i hs
          rw [Bool.and_eq_true] at hs
          exact ⟨p, q, r1.dp sr q1, r2.dp sr q2, hs.1, hs.2, Option.some.inj e⟩
        · exact nomatch e
  unfold eqO at e
  split at e
  case h_11 => exact .inr (gen e)
  all_goals cases r1
  all_goals cases r2
  all_goals (refine .inl ⟨rfl, ?_⟩; simp only [Option.some.injEq] at e; rw [← e]; simp)
theorem o_eq (hu : X.A.units + 64 < cLine) : OpR X (compareOp .Eq) (rD X.K ct gEq) := by
  intro pins s σ H x y v u Q I rx ry h
  obtain ⟨v0, dx, dy, d, rfl, sr, e, r1, r2, h⟩ := h
  unfold gEq at e
  cases q : eqO dx dy with
  | none => rw [q] at e; exact nomatch e
  | some b =>
    rw [q] at e
    have e' : d = .bl b := (Option.some.inj e).symm
    subst e'
    rcases eq_core sr r1 r2 q with ⟨h1, h2⟩ | ⟨p, q, d1, d2, s1, s2, eb⟩
    · exact op_eq pins s σ _ x y v u Q I rx ry ⟨h1, by rw [h2]; exact h _ v0 .refl sr rfl (.bl b)⟩
    · exact op_eqD hu pins s σ _ x y v u Q I rx ry ⟨p, q, d1, d2, s1, s2, by rw [eb]; exact h _ v0 .refl sr rfl (.bl b)⟩
theorem o_ne (hu : X.A.units + 64 < cLine) : OpR X (compareOp .NotEq) (rD X.K ct gNe) := by
  intro pins s σ H x y v u Q I rx ry h
  obtain ⟨v0, dx, dy, d, rfl, sr, e, r1, r2, h⟩ := h
  unfold gNe at e
  cases q : eqO dx dy with
  | none => rw [q] at e; exact nomatch e
  | some b =>
    rw [q] at e
    have e' : d = .bl !b := (Option.some.inj e).symm
    subst e'
    rcases eq_core sr r1 r2 q with ⟨h1, h2⟩ | ⟨p, q, d1, d2, s1, s2, eb⟩
    · exact op_ne pins s σ _ x y v u Q I rx ry ⟨h1, by rw [h2]; exact h _ v0 .refl sr rfl (.bl _)⟩
    · exact op_neD hu pins s σ _ x y v u Q I rx ry ⟨p, q, d1, d2, s1, s2, by rw [eb]; exact h _ v0 .refl sr rfl (.bl _)⟩
theorem o_isN : OpR X (compareOp .Is) (rD X.K ct gIsN) := by
  intro pins s σ H x y v u Q I rx ry h
  obtain ⟨v0, dx, dy, d, rfl, sr, e, r1, r2, h⟩ := h
  cases r2 <;> simp only [gIsN, Option.some.injEq, reduceCtorEq] at e
  subst e
  cases r1 <;> exact op_isN pins s σ _ _ _ v u Q I rx ry ⟨rfl, h _ v0 .refl sr rfl (.bl _)⟩
theorem o_notN : OpR X (compareOp .IsNot) (rD X.K ct gNotN) := by
  intro pins s σ H x y v u Q I rx ry h
  obtain ⟨v0, dx, dy, d, rfl, sr, e, r1, r2, h⟩ := h
  cases r2 <;> simp only [gNotN, Option.some.injEq, reduceCtorEq] at e
  subst e
  cases r1 <;> exact op_notN pins s σ _ _ _ v u Q I rx ry ⟨rfl, h _ v0 .refl sr rfl (.bl _)⟩
end

/-! ### one operand -/
abbrev B1 := D → Option D
def rD1 (K : PySem.W.Frag) (ct : String → Addr) (g : B1) : V → Hp → VK → Prop := fun x H Q => ∃ v dx d, v.H = H ∧ SR K ct v ∧ g dx = some d ∧ RepT K ct v dx x ∧ ∀ z v', Le v v' → SR K ct v' → v'.st = v.st → Rep K ct v'.G v'.m d z → Q z v'.H
def eUn (g : B1) (a : E) : E := fun δ s => (a δ s).bind fun x s1 => R.ofO (g (rsv s1 x)) s1
def gNeg : B1
  | .int i => some (.int (-i))
  | _ => none
section
variable {X : Cx} {C : Cc} {pos : Pos} {a : Expr} {fa : E} {g : B1}
theorem lift_un {K : PySem.W.Frag} {σ : L2.St} {H : Hp} {Q : VK} (h : liftE K C (eUn g fa) σ H Q) : tUn (rD1 K C.ct g) (liftE K C fa) σ H Q := by
  obtain ⟨δ, v, re, rfl, h⟩ := h
  refine ⟨δ, v, re, rfl, on_mono (on_bind h) fun d x v1 l1 s1 r1 h1 => ?_⟩
  obtain ⟨z, e, h1⟩ := on_ofO h1
  exact ⟨v1, _, z, rfl, s1, e, r1.top s1, h1⟩
theorem se_un {op : UnaryOp} (ho : UnR X (unaryOp op) (rD1 X.K C.ct g)) (ha : SE X C a fa) : SE X C (.UnaryOp op a pos) (eUn g fa) := pe_weak (pe_un ho ha) fun σ H Q h => lift_un h
theorem o_neg {ct : String → Addr} : UnR X (unaryOp .USub) (rD1 X.K ct gNeg) := by
  intro pins s σ H x v Q I rx h
  obtain ⟨v0, dx, d, rfl, sr, e, r1, h⟩ := h
  cases r1 <;> simp only [gNeg, Option.some.injEq, reduceCtorEq] at e
  subst e
  exact un_neg pins s σ _ _ v Q I rx ⟨_, rfl, h _ v0 .refl sr rfl (.int _)⟩
end

/-! ### built-in functions of values -/
abbrev BA := List D → Option D
inductive RepTL (K : PySem.W.Frag) (ct : String → Addr) (v : Vw) : List D → List V → Prop
  | nil : RepTL K ct v [] []
  | cons {d : D} {x : V} {ds : List D} {xs : List V} : RepT K ct v d x → RepTL K ct v ds xs → RepTL K ct v (d :: ds) (x :: xs)
theorem RepL.top {K : PySem.W.Frag} {ct : String → Addr} {v : Vw} (sr : SR K ct v) : ∀ {ds : List D} {xs : List V}, RepL K ct v.G v.m ds xs → RepTL K ct v (ds.map (rsv v.st)) xs
  | _, _, .nil => .nil
  | _, _, .cons h r => .cons (h.top sr) (RepL.top sr r)
def rDA (K : PySem.W.Frag) (ct : String → Addr) (g : BA) : List V → Hp → VK → Prop := fun xs H Q => ∃ v ds d, v.H = H ∧ SR K ct v ∧ g ds = some d ∧ RepTL K ct v ds xs ∧ ∀ z v', Le v v' → SR K ct v' → v'.st = v.st → Rep K ct v'.G v'.m d z → Q z v'.H
def eFn (g : BA) (a : As) : E := fun δ s => (a δ s).bind fun xs s1 => R.ofO (g (xs.map (rsv s1))) s1
section
variable {X : Cx} {C : Cc} {pos p : Pos} {x : Str} {id T : String} {e : Expr} {es : List Expr} {fa : As} {g : BA}
theorem lift_fn {K : PySem.W.Frag} {σ : L2.St} {H : Hp} {Q : VK} (h : liftE K C (eFn g fa) σ H Q) : tCB (rDA K C.ct g) (liftA K C fa) σ H Q := by
  obtain ⟨δ, v, re, rfl, h⟩ := h
  refine ⟨δ, v, re, rfl, on_mono (on_bind h) fun d x v1 l1 s1 r1 h1 => ?_⟩
  obtain ⟨z, e, h1⟩ := on_ofO h1
  exact ⟨v1, _, z, rfl, s1, e, r1.top s1, h1⟩
theorem se_callB (hc : CallR X (.builtin id) (rDA X.K C.ct g)) (hg : Gl X x) (hm : X.mg x = none) (hv : bootBuiltins x = some (.builtin id)) (ha : SA X C (e :: es) fa) (hn : x ≠ "__name__" := by decide) (hdb : (x == ("__debug__" : Str)) = false := by decide)
    (he : starEach (e :: es) X.env = (false, eval e X.env) :: starEach es X.env := by rfl) (hpl : (backTo pos (starEach es X.env)).any (·.1) = false := by rfl) : SE X C (.Call (.Name x p) (e :: es) [] pos) (eFn g fa) :=
  pe_weak (pe_callB hc hg hm hv ha hn hdb he hpl) fun σ H Q h => lift_fn h
theorem se_callT (hc : CallR X (.type T) (rDA X.K C.ct g)) (hg : Gl X x) (hm : X.mg x = none) (hv : bootBuiltins x = some (.type T)) (ha : SA X C (e :: es) fa) (hn : x ≠ "__name__" := by decide) (hdb : (x == ("__debug__" : Str)) = false := by decide)
    (he : starEach (e :: es) X.env = (false, eval e X.env) :: starEach es X.env := by rfl) (hpl : (backTo pos (starEach es X.env)).any (·.1) = false := by rfl) : SE X C (.Call (.Name x p) (e :: es) [] pos) (eFn g fa) :=
  pe_weak (pe_callTy hc hg hm hv ha hn hdb he hpl) fun σ H Q h => lift_fn h

def gLen : BA
  | [.lst xs] => some (.int xs.length)
  | [.tup xs] => some (.int xs.length)
  | [.str x] => if x.length ≤ sizeLine then some (.int x.length) else none
  | _ => none
def gMin2 : BA
  | [.int i, .int j] => some (.int (if j < i then j else i))
  | _ => none
def gMax2 : BA
  | [.int i, .int j] => some (.int (if j > i then j else i))
  | _ => none
def gAbs : BA
  | [.int i] => some (.int (if i < 0 then -i else i))
  | _ => none
def gInt : BA
  | [.int i] => some (.int i)
  | [.bl k] => some (.int (if k then 1 else 0))
  | [.str a] => match PySem.intText? a with
    | some n => if a.length ≤ 640 then some (.int n) else none
    | none => none
  | _ => none
def gStr : BA
  | [.int i] => if i.natAbs.log2 < 1920 then some (.str (toString i)) else none
  | _ => none
/-- a text's signs -/
def signs (x : Str) : List D := x.cps.toList.map fun c => .str ⟨#[c]⟩
def signsV (x : Str) : List V := x.cps.toList.map fun c => .str ⟨#[c]⟩
theorem RepL.signs {K : PySem.W.Frag} {ct : String → Addr} {G : Hp} {m : Nat → Option Addr} (x : Str) : RepL K ct G m (Gs.signs x) (signsV x) := by
  unfold Gs.signs signsV
  generalize x.cps.toList = l
  induction l with
  | nil => exact .nil
  | cons c r ih => exact .cons (.str _) ih
theorem call_list_text (hc : X.calm = true) : CallR X (.type "list") (fun xs H Q => ∃ z : Str, xs = [.str z] ∧ z.length ≤ sizeLine ∧ ∀ l, H l = none → Q (.ref l) (upd H l (.lst (signsV z)))) := by
  intro pins s σ H xs us Q I r h
  obtain ⟨z, e, hz, q⟩ := h
  subst e
  obtain ⟨u, eu, rx⟩ := vals1 r
  subst eu
  obtain ⟨t, rfl⟩ := rx
  refine call_list_str (I.ok.hd hc) z t (hn := hz) fun h' tk acc' c' hkeep hS hacc => ?_
  refine ⟨.ref s.heap.objs.size, upd H s.heap.objs.size (.lst (signsV z)), I.laid hkeep (Nat.le_refl _) (show ObjOk X.prog X.w _ _ _ (.lst (signsV z)) from ⟨?_, acc'.toList, c', ?_, ?_⟩), rfl, q _ (I.hok.fresh (Nat.le_refl _))⟩
  · simpa [signsV, Str.length] using hz
  · refine vals_of_at (by simp [signsV, hacc.1]) fun j x w h1 h2 => ?_
    obtain ⟨c, u, hky, hi⟩ := hacc.2 j w (by rw [← Array.getElem?_toList]; exact h2)
    have e2 : (signsV z)[j]? = some (V.str ⟨#[c]⟩) := by
      unfold signsV
      rw [List.getElem?_map, Array.getElem?_toList, hky]
      rfl
    rw [e2] at h1
    cases h1
    exact ⟨u, hi⟩
  · rw [Array.toArray_toList]; exact hS
def gList : BA
  | [.lst xs] => some (.lst xs)
  | [.tup xs] => some (.lst xs)
  | [.str x] => if x.length ≤ sizeLine then some (.lst (signs x)) else none
  | _ => none
def gTuple : BA
  | [.lst xs] => some (.tup xs)
  | [.tup xs] => some (.tup xs)
  | _ => none
def gDivmod : BA
  | [.int i, .int j] => if 0 < j ∧ Builtin.divisionGoesByPylong i j = false then some (.tup [.int (i / j), .int (i % j)]) else none
  | _ => none
def intsOf : List D → Option (List Int)
  | [] => some []
  | .int i :: r => (intsOf r).map (i :: ·)
  | _ => none
def blsOf : List D → Option (List Bool)
  | [] => some []
  | .bl i :: r => (blsOf r).map (i :: ·)
  | _ => none
def strsOf : List D → Option (List Str)
  | [] => some []
  | .str i :: r => (strsOf r).map (i :: ·)
  | _ => none
theorem intsOf_eq : ∀ {ds : List D} {ns : List Int}, intsOf ds = some ns → ds = ns.map D.int
  | [], _, e => by simp only [intsOf, Option.some.injEq] at e; subst e; rfl
  | .int i :: r, ns, e => by
    simp only [intsOf] at e
    cases q : intsOf r with
    | none => rw [q] at e; exact nomatch e
    | some ms => rw [q] at e; simp only [Option.map_some, Option.some.injEq] at e; subst e; rw [intsOf_eq q]; rfl
  | .non :: _, _, e => nomatch e
  | .bl _ :: _, _, e => nomatch e
  | .str _ :: _, _, e => nomatch e
  | .tup _ :: _, _, e => nomatch e
  | .lst _ :: _, _, e => nomatch e
  | .fn _ :: _, _, e => nomatch e
  | .ob _ :: _, _, e => nomatch e
  | .ev _ _ _ :: _, _, e => nomatch e
  | .dct _ _ :: _, _, e => nomatch e
theorem blsOf_eq : ∀ {ds : List D} {ns : List Bool}, blsOf ds = some ns → ds = ns.map D.bl
  | [], _, e => by simp only [blsOf, Option.some.injEq] at e; subst e; rfl
  | .bl i :: r, ns, e => by
    simp only [blsOf] at e
    cases q : blsOf r with
    | none => rw [q] at e; exact nomatch e
    | some ms => rw [q] at e; simp only [Option.map_some, Option.some.injEq] at e; subst e; rw [blsOf_eq q]; rfl
  | .non :: _, _, e => nomatch e
  | .int _ :: _, _, e => nomatch e
  | .str _ :: _, _, e => nomatch e
  | .tup _ :: _, _, e => nomatch e
  | .lst _ :: _, _, e => nomatch e
  | .fn _ :: _, _, e => nomatch e
  | .ob _ :: _, _, e => nomatch e
  | .ev _ _ _ :: _, _, e => nomatch e
  | .dct _ _ :: _, _, e => nomatch e
theorem strsOf_eq : ∀ {ds : List D} {ns : List Str}, strsOf ds = some ns → ds = ns.map D.str
  | [], _, e => by simp only [strsOf, Option.some.injEq] at e; subst e; rfl
  | .str i :: r, ns, e => by
    simp only [strsOf] at e
    cases q : strsOf r with
    | none => rw [q] at e; exact nomatch e
    | some ms => rw [q] at e; simp only [Option.map_some, Option.some.injEq] at e; subst e; rw [strsOf_eq q]; rfl
  | .non :: _, _, e => nomatch e
  | .int _ :: _, _, e => nomatch e
  | .bl _ :: _, _, e => nomatch e
  | .tup _ :: _, _, e => nomatch e
  | .lst _ :: _, _, e => nomatch e
  | .fn _ :: _, _, e => nomatch e
  | .ob _ :: _, _, e => nomatch e
  | .ev _ _ _ :: _, _, e => nomatch e
  | .dct _ _ :: _, _, e => nomatch e
theorem intsOf_map : ∀ ns : List Int, intsOf (ns.map D.int) = some ns
  | [] => rfl
  | n :: r => by simp only [List.map_cons, intsOf, intsOf_map r, Option.map_some]
theorem blsOf_map : ∀ ns : List Bool, blsOf (ns.map D.bl) = some ns
  | [] => rfl
  | n :: r => by simp only [List.map_cons, blsOf, blsOf_map r, Option.map_some]
theorem strsOf_map : ∀ ns : List Str, strsOf (ns.map D.str) = some ns
  | [] => rfl
  | n :: r => by simp only [List.map_cons, strsOf, strsOf_map r, Option.map_some]
def gSum : BA
  | [.lst xs] => (intsOf xs).map fun ns => .int ns.sum
  | _ => none
def gAll : BA
  | [.lst xs] => (blsOf xs).map fun ns => .bl (ns.all fun b => b)
  | _ => none
def gAny : BA
  | [.lst xs] => (blsOf xs).map fun ns => .bl (ns.any fun b => b)
  | _ => none
def gMin : BA
  | [.lst xs] => (intsOf xs).bind fun ns => ns.min?.map .int
  | _ => none
def gMax : BA
  | [.lst xs] => (intsOf xs).bind fun ns => ns.max?.map .int
  | _ => none
theorem b_len {ct : String → Addr} : CallR X (.builtin "len") (rDA X.K ct gLen) := by
  intro pins s σ H xs us Q I r h
  obtain ⟨v0, ds, d, rfl, sr, e, rl, h⟩ := h
  unfold gLen at e
  split at e
  · cases rl with
    | cons r1 r2 =>
      cases r2
      cases r1 with
      | lst p q =>
        simp only [Option.some.injEq] at e
        subst e
        refine call_len_seq pins s σ _ _ us Q I r ⟨_, _, rfl, .inl (p), ?_⟩
        rw [← q.length]
        exact h _ v0 .refl sr rfl (.int _)
  · cases rl with
    | cons r1 r2 =>
      cases r2
      cases r1 with
      | tup p q =>
        simp only [Option.some.injEq] at e
        subst e
        refine call_len_seq pins s σ _ _ us Q I r ⟨_, _, rfl, .inr (sqt_mono sr.sub p), ?_⟩
        rw [← q.length]
        exact h _ v0 .refl sr rfl (.int _)
  · cases rl with
    | cons r1 r2 =>
      cases r2
      cases r1
      split at e
      · rename_i hz
        simp only [Option.some.injEq] at e
        subst e
        exact call_len_str pins s σ _ _ us Q I r ⟨_, rfl, hz, h _ v0 .refl sr rfl (.int _)⟩
      · exact nomatch e
  · exact nomatch e
theorem b_min2 {ct : String → Addr} (hc : X.calm = true) : CallR X (.builtin "min") (rDA X.K ct gMin2) := by
  intro pins s σ H xs us Q I r h
  obtain ⟨v0, ds, d, rfl, sr, e, rl, h⟩ := h
  unfold gMin2 at e
  split at e
  · cases rl with
    | cons r1 r2 =>
      cases r2 with
      | cons r2 r3 =>
        cases r1; cases r2; cases r3
        simp only [Option.some.injEq] at e
        subst e
        exact call_min2 hc pins s σ _ _ us Q I r ⟨_, _, rfl, h _ v0 .refl sr rfl (.int _)⟩
  · exact nomatch e
theorem b_max2 {ct : String → Addr} (hc : X.calm = true) : CallR X (.builtin "max") (rDA X.K ct gMax2) := by
  intro pins s σ H xs us Q I r h
  obtain ⟨v0, ds, d, rfl, sr, e, rl, h⟩ := h
  unfold gMax2 at e
  split at e
  · cases rl with
    | cons r1 r2 =>
      cases r2 with
      | cons r2 r3 =>
        cases r1; cases r2; cases r3
        simp only [Option.some.injEq] at e
        subst e
        exact call_max2 hc pins s σ _ _ us Q I r ⟨_, _, rfl, h _ v0 .refl sr rfl (.int _)⟩
  · exact nomatch e
theorem b_abs {ct : String → Addr} : CallR X (.builtin "abs") (rDA X.K ct gAbs) := by
  intro pins s σ H xs us Q I r h
  obtain ⟨v0, ds, d, rfl, sr, e, rl, h⟩ := h
  unfold gAbs at e
  split at e
  · cases rl with
    | cons r1 r2 =>
      cases r1; cases r2
      simp only [Option.some.injEq] at e
      subst e
      exact call_abs pins s σ _ _ us Q I r ⟨_, rfl, h _ v0 .refl sr rfl (.int _)⟩
  · exact nomatch e
theorem b_int {ct : String → Addr} : CallR X (.type "int") (rDA X.K ct gInt) := by
  intro pins s σ H xs us Q I r h
  obtain ⟨v0, ds, d, rfl, sr, e, rl, h⟩ := h
  unfold gInt at e
  split at e
  · cases rl with
    | cons r1 r2 =>
      cases r1; cases r2
      simp only [Option.some.injEq] at e
      subst e
      exact call_int1 pins s σ _ _ us Q I r (.inl ⟨_, rfl, h _ v0 .refl sr rfl (.int _)⟩)
  · cases rl with
    | cons r1 r2 =>
      cases r1; cases r2
      simp only [Option.some.injEq] at e
      subst e
      exact call_int1 pins s σ _ _ us Q I r (.inr ⟨_, rfl, h _ v0 .refl sr rfl (.int _)⟩)
  · cases rl with
    | cons r1 r2 =>
      cases r1; cases r2
      split at e
      · rename_i n hn
        split at e
        · rename_i hz
          simp only [Option.some.injEq] at e
          subst e
          exact call_int_str pins s σ _ _ us Q I r ⟨_, n, rfl, hn, hz, h _ v0 .refl sr rfl (.int _)⟩
        · exact nomatch e
      · exact nomatch e
  · exact nomatch e
theorem b_str {ct : String → Addr} : CallR X (.type "str") (rDA X.K ct gStr) := by
  intro pins s σ H xs us Q I r h
  obtain ⟨v0, ds, d, rfl, sr, e, rl, h⟩ := h
  unfold gStr at e
  split at e
  · cases rl with
    | cons r1 r2 =>
      cases r1; cases r2
      split at e
      · rename_i hz
        simp only [Option.some.injEq] at e
        subst e
        exact call_str_int pins s σ _ _ us Q I r ⟨_, rfl, hz, h _ v0 .refl sr rfl (.str _)⟩
      · exact nomatch e
  · exact nomatch e
theorem b_list {ct : String → Addr} (hc : X.calm = true) : CallR X (.type "list") (rDA X.K ct gList) := by
  intro pins s σ H xs us Q I r h
  obtain ⟨v0, ds, d, rfl, sr, e, rl, h⟩ := h
  unfold gList at e
  split at e
  · cases rl with
    | cons r1 r2 =>
      cases r2
      cases r1 with
      | lst p q =>
        simp only [Option.some.injEq] at e
        subst e
        exact call_list_of pins s σ _ _ us Q I r ⟨_, _, rfl, .inl (p), fun c hc => let ⟨l, s2⟩ := new_ok (o := .lst _) sr hc; h _ _ l s2 rfl (.lst (SqL.of upd_same) (l.repl q))⟩
  · cases rl with
    | cons r1 r2 =>
      cases r2
      cases r1 with
      | tup p q =>
        simp only [Option.some.injEq] at e
        subst e
        exact call_list_of pins s σ _ _ us Q I r ⟨_, _, rfl, .inr (sqt_mono sr.sub p), fun c hc => let ⟨l, s2⟩ := new_ok (o := .lst _) sr hc; h _ _ l s2 rfl (.lst (SqL.of upd_same) (l.repl q))⟩
  · rename_i z
    cases rl with
    | cons r1 r2 =>
      cases r2
      cases r1
      split at e
      · rename_i hz
        simp only [Option.some.injEq] at e
        subst e
        exact call_list_text hc pins s σ _ _ us Q I r ⟨z, rfl, hz, fun c hc => let ⟨l, s2⟩ := new_ok (o := .lst (signsV z)) sr hc; h _ _ l s2 rfl (.lst (SqL.of upd_same) (RepL.signs z))⟩
      · exact nomatch e
  · exact nomatch e
theorem b_tuple {ct : String → Addr} : CallR X (.type "tuple") (rDA X.K ct gTuple) := by
  intro pins s σ H xs us Q I r h
  obtain ⟨v0, ds, d, rfl, sr, e, rl, h⟩ := h
  unfold gTuple at e
  split at e
  · cases rl with
    | cons r1 r2 =>
      cases r2
      cases r1 with
      | lst p q =>
        simp only [Option.some.injEq] at e
        subst e
        exact call_tuple_of pins s σ _ _ us Q I r ⟨_, _, rfl, .inl ⟨p, fun c hc => let ⟨l, s2⟩ := new_ok (o := .tup _) sr hc; h _ _ l s2 rfl (.tup (SqT.of upd_same) (l.repl q))⟩⟩
  · cases rl with
    | cons r1 r2 =>
      cases r2
      cases r1 with
      | tup p q =>
        simp only [Option.some.injEq] at e
        subst e
        exact call_tuple_of pins s σ _ _ us Q I r ⟨_, _, rfl, .inr ⟨sqt_mono sr.sub p, h _ v0 .refl sr rfl (.tup p q)⟩⟩
  · exact nomatch e
theorem b_divmod {ct : String → Addr} : CallR X (.builtin "divmod") (rDA X.K ct gDivmod) := by
  intro pins s σ H xs us Q I r h
  obtain ⟨v0, ds, d, rfl, sr, e, rl, h⟩ := h
  unfold gDivmod at e
  split at e
  · cases rl with
    | cons r1 r2 =>
      cases r2 with
      | cons r2 r3 =>
        cases r1; cases r2; cases r3
        split at e
        · rename_i hz
          simp only [Option.some.injEq] at e
          subst e
          exact call_divmodW pins s σ _ _ us Q I r ⟨_, _, rfl, hz, fun c hc => let ⟨l, s2⟩ := new_ok (o := .tup _) sr hc; h _ _ l s2 rfl (.tup (SqT.of upd_same) (.cons (.int _) (.cons (.int _) .nil)))⟩
        · exact nomatch e
  · exact nomatch e
theorem b_sum {ct : String → Addr} (hc : X.calm = true) : CallR X (.builtin "sum") (rDA X.K ct gSum) := by
  intro pins s σ H xs us Q I r h
  obtain ⟨v0, ds, d, rfl, sr, e, rl, h⟩ := h
  unfold gSum at e
  split at e
  · rename_i ys
    cases q1 : intsOf ys with
    | none => rw [q1] at e; exact nomatch e
    | some ns =>
      rw [q1] at e
      simp only [Option.map_some, Option.some.injEq] at e
      subst e
      have e2 := intsOf_eq q1
      subst e2
      cases rl with
      | cons r1 r2 =>
        cases r2
        cases r1 with
        | lst p q =>
          have e3 := RepL.of_ints q
          subst e3
          exact cr_sum hc pins s σ _ _ us Q I r ⟨_, ns, rfl, p, h _ v0 .refl sr rfl (.int _)⟩
  · exact nomatch e
theorem b_all {ct : String → Addr} (hc : X.calm = true) : CallR X (.builtin "all") (rDA X.K ct gAll) := by
  intro pins s σ H xs us Q I r h
  obtain ⟨v0, ds, d, rfl, sr, e, rl, h⟩ := h
  unfold gAll at e
  split at e
  · rename_i ys
    cases q1 : blsOf ys with
    | none => rw [q1] at e; exact nomatch e
    | some ns =>
      rw [q1] at e
      simp only [Option.map_some, Option.some.injEq] at e
      subst e
      have e2 := blsOf_eq q1
      subst e2
      cases rl with
      | cons r1 r2 =>
        cases r2
        cases r1 with
        | lst p q =>
          have e3 := RepL.of_bls q
          subst e3
          exact cr_all hc pins s σ _ _ us Q I r ⟨_, ns, rfl, p, h _ v0 .refl sr rfl (.bl _)⟩
  · exact nomatch e
theorem b_any {ct : String → Addr} (hc : X.calm = true) : CallR X (.builtin "any") (rDA X.K ct gAny) := by
  intro pins s σ H xs us Q I r h
  obtain ⟨v0, ds, d, rfl, sr, e, rl, h⟩ := h
  unfold gAny at e
  split at e
  · rename_i ys
    cases q1 : blsOf ys with
    | none => rw [q1] at e; exact nomatch e
    | some ns =>
      rw [q1] at e
      simp only [Option.map_some, Option.some.injEq] at e
      subst e
      have e2 := blsOf_eq q1
      subst e2
      cases rl with
      | cons r1 r2 =>
        cases r2
        cases r1 with
        | lst p q =>
          have e3 := RepL.of_bls q
          subst e3
          exact cr_any hc pins s σ _ _ us Q I r ⟨_, ns, rfl, p, h _ v0 .refl sr rfl (.bl _)⟩
  · exact nomatch e
end
/-! ### [e, ..] * n -/
def repD (xs : List D) (n : Nat) : List D := (List.replicate n xs).flatten
theorem RepL.rep {K : PySem.W.Frag} {ct : String → Addr} {G : Hp} {m : Nat → Option Addr} {ds : List D} {vs : List V} (r : RepL K ct G m ds vs) : ∀ n : Nat, RepL K ct G m (repD ds n) (List.replicate n vs).flatten
  | 0 => .nil
  | n + 1 => by
    unfold repD
    rw [List.replicate_succ, List.replicate_succ, List.flatten_cons, List.flatten_cons]
    exact r.append (RepL.rep r n)
/-- [e, ..] * n: the list, frozen (b = false) or a thing of the store -/
def eRep (keep : Bool) (r : As) (b : E) : E := fun δ s => (r δ s).bind fun xs s1 => if xs.length ≤ sizeLine then ((b δ s1).bind fun y s2 => match y with
  | .int k => if -(2 ^ 63) ≤ k ∧ k < 2 ^ 63 ∧ xs.length * k.toNat ≤ sizeLine then (if keep = true then .ok (.ob s2.length) (s2 ++ [.lst (repD xs k.toNat)]) else .ok (.lst (repD xs k.toNat)) s2) else .stk
  | _ => .stk) else .stk
theorem se_rep {X : Cx} {C : Cc} {pos p2 : Pos} {es : List Expr} {b : Expr} {r : As} {fb : E} (keep : Bool) (h : SA X C es r) (hb : SE X C b fb) : SE X C (.BinOp (.List es p2) .Mult b pos) (eRep keep r fb) :=
  pe_weak (pe_op op_rep (pe_lst h) hb) fun σ H Q ⟨δ, v, re, eH, h⟩ => ⟨δ, v, re, eH, on_mono (on_bind h) fun ds vs v1 l1 s1 r1 h1 => by
    have hl := r1.length
    split at h1
    · rename_i z
      refine ⟨by omega, fun p hp => ?_⟩
      obtain ⟨l2, s2⟩ := more_ok s1 (same_new hp (.lst vs))
      refine ⟨δ, _, (re.step l1 s1).step l2 s2, rfl, on_mono (on_bind (on_step l2 h1)) fun y x v3 l3 s3 r3 h3 => ?_⟩
      cases r3 <;> first
        | exact h3.elim
        | skip
      rename_i k
      simp only at h3
      split at h3
      · rename_i hz
        have hH : v3.H p = some (.lst vs) := l3.h p _ upd_same fun q => by
          obtain ⟨i, o, a, e, l, em, q⟩ := q
          obtain ⟨_, w, hw, _⟩ := s1.obj_ne e l em
          rcases q with rfl | ⟨C, fs, q⟩
          · rw [hp] at hw
            cases hw
          · have q' : upd v1.H p (.lst vs) a = some (.ins C p fs) := q
            rw [upd_ne (ne_of_none hw hp)] at q'
            obtain ⟨d1, _⟩ := s1.dx e l em q'
            rw [hp] at d1
            cases d1
        refine ⟨p, k, vs, rfl, rfl, hH, hz.1, hz.2.1, by rw [← hl]; exact hz.2.2, fun q hq => ?_⟩
        have r4 := (l2.trans l3).repl r1
        split at h3
        · obtain ⟨l5, s5⟩ := newL_ok (ds := repD ds k.toNat) s3 hq (r4.rep k.toNat)
          exact h3 (.ref q) _ l5 s5 rfl (.ob mset_same)
        · obtain ⟨l5, s5⟩ := new_ok (o := .lst (List.replicate k.toNat vs).flatten) s3 hq
          exact h3 (.ref q) _ l5 s5 rfl (.lst (SqL.of upd_same) (l5.repl (r4.rep k.toNat)))
      · exact h3.elim
    · exact h1.elim⟩
end Gs

/-! G4: items, slices, isinstance, methods of texts. -/
namespace Gs
open PySem L2

/-! ### items -/
theorem RepL.atI {K : PySem.W.Frag} {ct : String → Addr} {G : Hp} {m : Nat → Option Addr} {ds : List D} {vs : List V} {i : Int} {d : D} (r : RepL K ct G m ds vs) (e : L2.atI ds i = some d) : ∃ v, L2.atI vs i = some v ∧ Rep K ct G m d v := by
  unfold L2.atI at e ⊢
  rw [r.length] at e
  cases q : ixN vs.length i with
  | none => rw [q] at e; exact nomatch e
  | some j => rw [q] at e; exact r.get e
def gIx : B2
  | .lst xs, .int i => atI xs i
  | .tup xs, .int i => atI xs i
  | .str z, .int i => if z.length ≤ sizeLine then (atI z.cps.toList i).map fun c => .str ⟨#[c]⟩ else none
  | _, _ => none
section
variable {X : Cx} {C : Cc} {pos p2 : Pos} {a b : Expr} {fa fb : E}
theorem x_ix {ct : String → Addr} : IxR X (rD X.K ct gIx) := by
  intro value slice pins s σ H x y v u Q I rx ry h hs
  obtain ⟨v0, dx, dy, d, rfl, sr, e, r1, r2, h⟩ := h
  cases r1 with
  | lst p q =>
    cases r2 <;> simp only [gIx, reduceCtorEq] at e
    obtain ⟨v', e1, r3⟩ := q.atI e
    exact ix_list value slice pins s σ _ _ _ v u Q I rx ry ⟨_, _, _, _, rfl, rfl, p, e1, h _ v0 .refl sr rfl r3⟩ hs
  | tup p q =>
    cases r2 <;> simp only [gIx, reduceCtorEq] at e
    obtain ⟨v', e1, r3⟩ := q.atI e
    exact ix_tup value slice pins s σ _ _ _ v u Q I rx ry ⟨_, _, _, _, rfl, rfl, sqt_mono sr.sub p, e1, h _ v0 .refl sr rfl r3⟩ hs
  | str z =>
    cases r2 <;> simp only [gIx, reduceCtorEq] at e
    split at e
    · rename_i hz
      cases q : atI z.cps.toList _ with
      | none => rw [q] at e; exact nomatch e
      | some c =>
        rw [q] at e
        simp only [Option.map_some, Option.some.injEq] at e
        subst e
        exact ix_str value slice pins s σ _ _ _ v u Q I rx ry ⟨_, _, c, rfl, rfl, hz, q, h _ v0 .refl sr rfl (.str _)⟩ hs
    · exact nomatch e
  | non => cases r2 <;> simp only [gIx, reduceCtorEq] at e
  | bl b => cases r2 <;> simp only [gIx, reduceCtorEq] at e
  | int b => cases r2 <;> simp only [gIx, reduceCtorEq] at e
  | fn a => cases r2 <;> simp only [gIx, reduceCtorEq] at e
  | ob a => cases r2 <;> simp only [gIx, reduceCtorEq] at e
  | ev a => cases r2 <;> simp only [gIx, reduceCtorEq] at e
  | clo a => cases r2 <;> simp only [gIx, reduceCtorEq] at e
  | dct p l q => cases r2 <;> simp only [gIx, reduceCtorEq] at e
theorem se_ix (ha : SE X C a fa) (hb : SE X C b fb) (hs : PlainIx b := by intro _ _; rfl) : SE X C (.Subscript a b pos) (eBin gIx fa fb) := pe_weak (pe_ix x_ix ha hb hs) fun σ H Q h => lift_bin h

/-! ### slices -/
abbrev Os := Sl → Sto → R (Option Int)
def liftO (K : PySem.W.Frag) (C : Cc) (f : Os) : TO := fun σ H Q => ∃ δ v, RE K C σ δ v ∧ v.H = H ∧ on K C σ v rB (f δ v.st) fun _ b v' => Q b v'.H
abbrev SO (X : Cx) (C : Cc) (e : Option Expr) (f : Os) : Prop := PO X e (liftO X.K C f)
theorem po_weak {X : Cx} {e : Option Expr} {t t' : TO} (h : PO X e t) (w : ∀ σ H Q, t' σ H Q → t σ H Q) : PO X e t' := ⟨fun pins s σ H Q I z => h.run pins s σ H Q I (w σ H Q z)⟩
def oNone : Os := fun _ s => .ok none s
def oSome (f : E) : Os := fun δ s => (f δ s).bind fun d s1 => match d with
  | .int i => .ok (some i) s1
  | _ => .stk
theorem so_none : SO X C none oNone := po_weak po_none fun σ H Q ⟨δ, v, re, eH, h⟩ => by subst eH; exact on_self re.sr h rfl
theorem so_some (ha : SE X C a fa) : SO X C (some a) (oSome fa) := po_weak (po_some ha) fun σ H Q ⟨δ, v, re, eH, h⟩ =>
  ⟨δ, v, re, eH, on_mono (on_bind h) fun d x v1 l1 s1 r1 h1 => by
    cases r1 <;> first
      | exact h1.elim
      | exact ⟨_, rfl, on_self s1 h1 rfl⟩⟩
def cutD (xs : List D) (lo hi : Option Int) : List D := (xs.drop (HT.sIx xs.length 0 lo)).take (HT.sIx xs.length xs.length hi - HT.sIx xs.length 0 lo)
theorem RepL.cut {K : PySem.W.Frag} {ct : String → Addr} {G : Hp} {m : Nat → Option Addr} {ds : List D} {vs : List V} (r : RepL K ct G m ds vs) (lo hi : Option Int) : RepL K ct G m (cutD ds lo hi) (cutV vs lo hi) := by
  unfold cutD cutV
  rw [r.length]
  exact (r.drop _).take _
def gSl : D → Option Int → Option Int → Option D
  | .lst xs, lo, hi => some (.lst (cutD xs lo hi))
  | .tup xs, lo, hi => some (.tup (cutD xs lo hi))
  | .str z, lo, hi => if z.length ≤ sizeLine then some (.str (cutS z lo hi)) else none
  | _, _, _ => none
def rDS (K : PySem.W.Frag) (ct : String → Addr) (g : D → Option Int → Option Int → Option D) : V → Option Int → Option Int → Hp → VK → Prop := fun x lo hi H Q => ∃ v dx d, v.H = H ∧ SR K ct v ∧ g dx lo hi = some d ∧ RepT K ct v dx x ∧ ∀ z v', Le v v' → SR K ct v' → v'.st = v.st → Rep K ct v'.G v'.m d z → Q z v'.H
theorem s_sl {ct : String → Addr} : SlR X (rDS X.K ct gSl) := by
  intro pins s σ H x v vl vu lo hi sl Q I rx hs pl pu h
  obtain ⟨v0, dx, d, rfl, sr, e, r1, h⟩ := h
  cases r1 with
  | lst p q =>
    simp only [gSl, Option.some.injEq] at e
    subst e
    exact sl_list pins s σ _ _ v vl vu lo hi sl Q I rx hs pl pu ⟨_, _, rfl, p, fun c hc => let ⟨l, s2⟩ := new_ok (o := .lst _) sr hc; h _ _ l s2 rfl (.lst (SqL.of upd_same) ((q.cut lo hi).mono l.g l.m))⟩
  | @tup c0 vs0 ds0 p q =>
    simp only [gSl, Option.some.injEq] at e
    subst e
    refine sl_tupA pins s σ _ _ v vl vu lo hi sl Q I rx hs pl pu ⟨_, _, rfl, sqt_mono sr.sub p, fun z => ?_, fun _ c hc => let ⟨l, s2⟩ := new_ok (o := .tup _) sr hc; h _ _ l s2 rfl (.tup (SqT.of upd_same) (l.repl (q.cut lo hi)))⟩
    refine h _ v0 .refl sr rfl (.tup p ?_)
    have e2 := q.cut lo hi
    have e3 : cutV vs0 lo hi = vs0 := by
      unfold cutV
      rw [z.1, z.2, Nat.sub_zero, List.drop_zero, List.take_length]
    rw [e3] at e2
    exact e2
  | str z =>
    simp only [gSl] at e
    split at e
    · rename_i hz
      simp only [Option.some.injEq] at e
      subst e
      exact sl_str pins s σ _ _ v vl vu lo hi sl Q I rx hs pl pu ⟨_, rfl, hz, h _ v0 .refl sr rfl (.str _)⟩
    · exact nomatch e
  | non => simp only [gSl, reduceCtorEq] at e
  | bl b => simp only [gSl, reduceCtorEq] at e
  | int b => simp only [gSl, reduceCtorEq] at e
  | fn a => simp only [gSl, reduceCtorEq] at e
  | ob a => simp only [gSl, reduceCtorEq] at e
  | ev a => simp only [gSl, reduceCtorEq] at e
  | clo a => simp only [gSl, reduceCtorEq] at e
  | dct p l q => simp only [gSl, reduceCtorEq] at e
def eSl (a : E) (lo hi : Os) : E := fun δ s => (a δ s).bind fun x s1 => (lo δ s1).bind fun l s2 => (hi δ s2).bind fun h s3 => R.ofO (gSl (rsv s3 x) l h) s3
theorem se_sl {lo hi : Option Expr} {fl fh : Os} (ha : SE X C a fa) (hl : SO X C lo fl) (hh : SO X C hi fh) : SE X C (.Subscript a (.Slice lo hi none p2) pos) (eSl fa fl fh) :=
  pe_weak (pe_slice s_sl ha hl hh) fun σ H Q ⟨δ, v, re, eH, h⟩ => by
    refine ⟨δ, v, re, eH, on_mono (on_bind h) fun d x v1 l1 s1 r1 h1 => ?_⟩
    refine ⟨δ, v1, re.step l1 s1, rfl, on_mono (on_bind h1) fun l y v2 l2 s2 e2 h2 => ?_⟩
    cases e2
    refine ⟨δ, v2, (re.step l1 s1).step l2 s2, rfl, on_mono (on_bind h2) fun u y v3 l3 s3 e3 h3 => ?_⟩
    cases e3
    obtain ⟨z, e, h3⟩ := on_ofO h3
    exact ⟨v3, _, z, rfl, s3, e, ((l2.trans l3).rep r1).top s3, h3⟩
/-- xs[::-1] -/
def gRev : B1
  | .lst xs => some (.lst xs.reverse)
  | _ => none
theorem se_rev {k : Nat} {p1 p3 p4 : Pos} (ha : SE X C a fa) : SE X C (.Subscript a (.Slice none none (some (.UnaryOp .USub (.Constant (.int 1) k p1) p3)) p4) pos) (eUn gRev fa) :=
  pe_weak (pe_revL ha) fun σ H Q h => by
    obtain ⟨δ, v, re, eH, h1⟩ := lift_un h
    refine ⟨δ, v, re, eH, on_mono h1 fun d x v1 l1 s1 r1 h2 => ?_⟩
    obtain ⟨v2, dx, d2, eH2, sr, e, r2, h2⟩ := h2
    cases r2 <;> simp only [gRev, Option.some.injEq, reduceCtorEq] at e
    rename_i c vs ds p q
    subst e
    rw [← eH2]
    exact ⟨_, _, rfl, p, fun l hl => let ⟨l9, s9⟩ := new_ok (o := .lst _) sr hl; h2 _ _ l9 s9 rfl (.lst (SqL.of upd_same) (l9.repl q.reverse))⟩

/-! ### isinstance -/
def tyN : D → Option String
  | .non => some "NoneType"
  | .bl _ => some "bool"
  | .int _ => some "int"
  | .str _ => some "str"
  | .tup _ => some "tuple"
  | .lst _ => some "list"
  | .fn _ => none
  | .ob _ => none
  | .ev _ _ _ => none
  | .clo _ _ => none
  | .dct _ _ => some "dict"
theorem RepT.tyx {K : PySem.W.Frag} {ct : String → Addr} {w : Vw} (sr : SR K ct w) {d : D} {v : V} {n : String} (r : RepT K ct w d v) (e : tyN d = some n) : TyX K w.H v (.type n) := by
  cases r <;> simp only [tyN, Option.some.injEq, reduceCtorEq] at e <;> subst e
  · exact .base .non
  · exact .base (.bl _)
  · exact .base (.int _)
  · exact .base (.str _)
  · rename_i a vs ds h r
    rcases sqt_mono sr.sub h with (h | ⟨o, h⟩) | ⟨o, its, m, h, c, _⟩
    · exact .base (.tup h)
    · exact .fTuple h
    · exact .kTuple h c
  · rename_i a vs ds h r
    rcases h with (h | ⟨o, h⟩) | ⟨o, its, m, h, c, _⟩
    · exact .base (.lst h)
    · exact .base (.frz h)
    · exact .kList h c
  · rename_i a vs ks ds h l r
    exact .base (.dK h)
theorem RepT.more {K : PySem.W.Frag} {ct : String → Addr} {w w' : Vw} {d : D} {v : V} (l : Le w w') (e : w'.G = w.G) (hh : Same w.H w'.H) (r : RepT K ct w d v) : RepT K ct w' d v := by
  cases r with
  | non => exact .non
  | bl b => exact .bl b
  | int b => exact .int b
  | str b => exact .str b
  | fn s => exact .fn s
  | ob h => exact .ob (l.m _ _ h)
  | tup h r => exact .tup (sqt_mono l.g h) (l.repl r)
  | lst h r => exact .lst (hh.seq h) (l.repl r)
  | dct h k r => exact .dct (hh _ _ h) k (l.repl r)
  | ev h => exact .ev (l.rep h)
  | clo h => exact .clo (l.rep h)
/-- the built-in class n of a datum's class -/
def isTy : String → String → Bool
  | "bool", "int" => true
  | a, b => a == b
def gIsi (n : String) : B1 := fun d => (tyN d).map fun t => .bl (isTy t n)
def okTy (n : String) : Bool := ["NoneType", "bool", "int", "str", "tuple", "list", "dict"].all fun t => decide (kitB t n = some (isTy t n))
theorem tyN_mem {d : D} {t : String} (h : tyN d = some t) : t ∈ ["NoneType", "bool", "int", "str", "tuple", "list", "dict"] := by
  cases d <;> simp only [tyN, Option.some.injEq, reduceCtorEq] at h <;> subst h <;> simp
theorem se_isi {pf pn : Pos} {n : String} {nx : Str} (ha : SE X C a fa) (hg : Gl X "isinstance") (hm : X.mg "isinstance" = none) (hgn : Gl X nx) (hmn : X.mg nx = none) (hv : bootBuiltins nx = some (.type n)) (hk : okTy n = true := by decide +kernel)
    (hn : nx ≠ "__name__" := by decide) (hd : (nx == ("__debug__" : Str)) = false := by decide) (hvi : bootBuiltins "isinstance" = some (.builtin "isinstance") := by decide +kernel)
    (hs : starEach [a, .Name nx pn] X.env = (false, eval a X.env) :: starEach [.Name nx pn] X.env := by rfl) (hpl : (backTo pos (starEach [.Name nx pn] X.env)).any (·.1) = false := by rfl)
    (hs2 : starEach [.Name nx pn] X.env = (false, eval (.Name nx pn) X.env) :: starEach [] X.env := by rfl) :
    SE X C (.Call (.Name "isinstance" pf) [a, .Name nx pn] [] pos) (eUn (gIsi n) fa) :=
  pe_weak (pe_callB call_isi hg hm hvi (pa_cons ha (pa_cons (pe_bltn (v := .ty n) hgn hmn hv rfl hn hd) pa_nil hs2) hs) (by decide) (by decide) hs hpl) fun σ H Q h => by
    obtain ⟨δ, v8, re, eH, h1⟩ := lift_un h
    refine ⟨δ, v8, re, eH, on_mono h1 fun d v v1 l1 s1 r1 h2 => ?_⟩
    obtain ⟨v2, dx, d2, eH2, sr, e, r2, h2⟩ := h2
    rw [← eH2]
    unfold gIsi at e
    cases q : tyN dx with
    | none => rw [q] at e; exact nomatch e
    | some t =>
      rw [q] at e
      simp only [Option.map_some, Option.some.injEq] at e
      subst e
      have z : kitB t n = some (isTy t n) := of_decide_eq_true (List.all_eq_true.mp hk t (tyN_mem q))
      exact ⟨v, .ty n, .type t, .type n, isTy t n, rfl, .ty n, r2.tyx sr q, kit_ty z, h2 _ v2 .refl sr rfl (.bl _)⟩
/-- isinstance(x, (T, U)) -/
def gIsi2 (n m : String) : B1 := fun d => (tyN d).map fun t => .bl (isTy t n || isTy t m)
theorem se_isi2 {pf pn pm pt : Pos} {kt : Nat} {n m : String} {nx mx : Str} (ha : SE X C a fa) (hg : Gl X "isinstance") (hm : X.mg "isinstance" = none) (hgn : Gl X nx) (hmn : X.mg nx = none) (hv : bootBuiltins nx = some (.type n)) (hgm : Gl X mx) (hmm : X.mg mx = none) (hvm : bootBuiltins mx = some (.type m)) (hk : okTy n = true := by decide +kernel) (hk2 : okTy m = true := by decide +kernel)
    (hn : nx ≠ "__name__" := by decide) (hd : (nx == ("__debug__" : Str)) = false := by decide) (hn2 : mx ≠ "__name__" := by decide) (hd2 : (mx == ("__debug__" : Str)) = false := by decide) (hvi : bootBuiltins "isinstance" = some (.builtin "isinstance") := by decide +kernel)
    (hs : starEach [a, .Tuple [.Name nx pn, .Name mx pm] kt pt] X.env = (false, eval a X.env) :: starEach [.Tuple [.Name nx pn, .Name mx pm] kt pt] X.env := by rfl) (hpl : (backTo pos (starEach [.Tuple [.Name nx pn, .Name mx pm] kt pt] X.env)).any (·.1) = false := by rfl)
    (hs2 : starEach [.Tuple [.Name nx pn, .Name mx pm] kt pt] X.env = (false, eval (.Tuple [.Name nx pn, .Name mx pm] kt pt) X.env) :: starEach [] X.env := by rfl)
    (hs3 : starEach [.Name nx pn, .Name mx pm] X.env = (false, eval (.Name nx pn) X.env) :: starEach [.Name mx pm] X.env := by rfl) (hs4 : starEach [.Name mx pm] X.env = (false, eval (.Name mx pm) X.env) :: starEach [] X.env := by rfl) :
    SE X C (.Call (.Name "isinstance" pf) [a, .Tuple [.Name nx pn, .Name mx pm] kt pt] [] pos) (eUn (gIsi2 n m) fa) :=
  pe_weak (pe_callB call_isiT hg hm hvi (pa_cons ha (pa_cons (pe_tup (pa_cons (pe_bltn (v := .ty n) hgn hmn hv rfl hn hd) (pa_cons (pe_bltn (v := .ty m) hgm hmm hvm rfl hn2 hd2) pa_nil hs4) hs3)) pa_nil hs2) hs) (by decide) (by decide) hs hpl) fun σ H Q h => by
    obtain ⟨δ, v8, re, eH, h1⟩ := lift_un h
    refine ⟨δ, v8, re, eH, on_mono h1 fun d v v1 l1 s1 r1 h2 => ?_⟩
    obtain ⟨v2, dx, d2, eH2, sr, e, r2, h2⟩ := h2
    rw [← eH2]
    unfold gIsi2 at e
    cases q : tyN dx with
    | none => rw [q] at e; exact nomatch e
    | some t =>
      rw [q] at e
      simp only [Option.map_some, Option.some.injEq] at e
      subst e
      have z : kitB t n = some (isTy t n) := of_decide_eq_true (List.all_eq_true.mp hk t (tyN_mem q))
      have z2 : kitB t m = some (isTy t m) := of_decide_eq_true (List.all_eq_true.mp hk2 t (tyN_mem q))
      refine ⟨by show 2 ≤ sizeLine; decide, fun c hc => ?_⟩
      obtain ⟨l9, s9⟩ := more_ok sr (same_new hc (.tup [V.ty n, V.ty m]))
      have ty : TyX X.K (upd v2.H c (.tup [V.ty n, V.ty m])) v (.type t) := (r2.more l9 rfl (same_new hc _)).tyx s9 q
      refine ⟨v, c, [.ty n, .ty m], .type t, [.type n, .type m], isTy t n || isTy t m, rfl, upd_same, .cons (.ty n) (.cons (.ty m) .nil), ty, ?_, h2 _ _ l9 s9 rfl (.bl _)⟩
      refine kitAny_cons (kit_ty z) (fun b1 => ?_) (fun b1 => ?_)
      · rw [b1, Bool.false_or]
        exact kitAny_cons (kit_ty z2) (fun b2 => by rw [b2]; exact kitAny_nil) (fun b2 => b2)
      · rw [b1, Bool.true_or]

/-! ### methods of texts -/
def rDM (K : PySem.W.Frag) (ct : String → Addr) (g : D → List D → Option D) : V → List V → Hp → VK → Prop := fun x xs H Q => ∃ v dx ds d, v.H = H ∧ SR K ct v ∧ g dx ds = some d ∧ RepT K ct v dx x ∧ RepTL K ct v ds xs ∧ ∀ z v', Le v v' → SR K ct v' → v'.st = v.st → Rep K ct v'.G v'.m d z → Q z v'.H
def isStr : D → Bool
  | .str _ => true
  | _ => false
def eM1 (g : D → List D → Option D) (o a : E) : E := fun δ s => (o δ s).bind fun x s1 => if isStr x then (a δ s1).bind fun y s2 => R.ofO (g x [rsv s2 y]) s2 else .stk
theorem se_m1 {o : Expr} {fo : E} {g : D → List D → Option D} {id : String} {name : Str} {apos : Pos} (slot : PySem.Slot "str" name id) (ty : typeOf (.builtin id) = pure (.type "method_descriptor")) (rule : MtR X id (rDM X.K C.ct g)) (ho : SE X C o fo) (ha : SE X C a fa)
    (hs : starEach [a] X.env = [(false, eval a X.env)] := by rfl) (hbase : attributeBase o name X.env (eval o X.env) = eval o X.env := by rfl) (hline : (apos.endLine == pos.line) = true := by rfl) : SE X C (.Call (.Attribute o name apos) [a] [] pos) (eM1 g fo fa) :=
  pe_weak (pe_m1 slot ty rule ho ha hs hbase hline) fun σ H Q ⟨δ, v, re, eH, h⟩ => by
    refine ⟨δ, v, re, eH, on_mono (on_bind h) fun d x v1 l1 s1 r1 h1 => ?_⟩
    cases r1 <;> first
      | exact h1.elim
      | skip
    rename_i z
    refine ⟨⟨z, rfl⟩, δ, v1, re.step l1 s1, rfl, on_mono (on_bind (show on X.K C σ v1 (rE X.K C.ct) ((fa δ v1.st).bind fun y s2 => R.ofO (g (.str z) [rsv s2 y]) s2) _ from h1)) fun d2 x2 v2 l2 s2 r2 h2 => ?_⟩
    obtain ⟨w, e, h2⟩ := on_ofO h2
    exact ⟨v2, _, _, w, rfl, s2, e, .str z, .cons (r2.top s2) .nil, h2⟩
def gFind : D → List D → Option D
  | .str a, [.str b] => some (.int (Txt.find a b))
  | _, _ => none
def gStarts : D → List D → Option D
  | .str a, [.str b] => some (.bl (Txt.startswith a b))
  | _, _ => none
def gPart : D → List D → Option D
  | .str a, [.str b] => if (b.length == 0) = false ∧ a.length ≤ sizeLine then some (.tup [.str (Txt.partition a b).1, .str (Txt.partition a b).2.1, .str (Txt.partition a b).2.2]) else none
  | _, _ => none
def gSplit : D → List D → Option D
  | .str a, [.str b] => if (b.length == 0) = false ∧ a.length + 2 ≤ sizeLine then some (.lst ((Txt.split a b).map .str)) else none
  | _, _ => none
def gJoin : D → List D → Option D
  | .str a, [.lst xs] => (strsOf xs).bind fun ys => if (ys.map (·.length)).sum + ys.length * a.length ≤ 16777216 then some (.str (Txt.join a ys)) else none
  | _, _ => none
theorem m_find {ct : String → Addr} : MtR X "str.find" (rDM X.K ct gFind) := by
  intro pins s σ H x xs v us Q I rx ru h
  obtain ⟨v0, dx, ds, d, rfl, sr, e, r1, r2, h⟩ := h
  unfold gFind at e
  split at e
  · cases r1
    cases r2 with
    | cons r2 r3 =>
      cases r2; cases r3
      simp only [Option.some.injEq] at e
      subst e
      exact mt_find pins s σ _ _ _ v us Q I rx ru ⟨_, _, rfl, rfl, h _ v0 .refl sr rfl (.int _)⟩
  · exact nomatch e
theorem m_starts {ct : String → Addr} : MtR X "str.startswith" (rDM X.K ct gStarts) := by
  intro pins s σ H x xs v us Q I rx ru h
  obtain ⟨v0, dx, ds, d, rfl, sr, e, r1, r2, h⟩ := h
  unfold gStarts at e
  split at e
  · cases r1
    cases r2 with
    | cons r2 r3 =>
      cases r2; cases r3
      simp only [Option.some.injEq] at e
      subst e
      exact mt_startswith pins s σ _ _ _ v us Q I rx ru ⟨_, _, rfl, rfl, h _ v0 .refl sr rfl (.bl _)⟩
  · exact nomatch e
theorem m_part {ct : String → Addr} : MtR X "str.partition" (rDM X.K ct gPart) := by
  intro pins s σ H x xs v us Q I rx ru h
  obtain ⟨v0, dx, ds, d, rfl, sr, e, r1, r2, h⟩ := h
  unfold gPart at e
  split at e
  · cases r1
    cases r2 with
    | cons r2 r3 =>
      cases r2; cases r3
      split at e
      · rename_i hz
        simp only [Option.some.injEq] at e
        subst e
        exact mt_partition pins s σ _ _ _ v us Q I rx ru ⟨_, _, rfl, rfl, hz.1, hz.2, fun c hc => let ⟨l, s2⟩ := new_ok (o := .tup _) sr hc; h _ _ l s2 rfl (.tup (SqT.of upd_same) (.cons (.str _) (.cons (.str _) (.cons (.str _) .nil))))⟩
      · exact nomatch e
  · exact nomatch e
theorem RepL.strs {K : PySem.W.Frag} {ct : String → Addr} {G : Hp} {m : Nat → Option Addr} : ∀ ns : List Str, RepL K ct G m (ns.map D.str) (ns.map V.str)
  | [] => .nil
  | n :: r => .cons (.str n) (RepL.strs r)
theorem m_split {ct : String → Addr} : MtR X "str.split" (rDM X.K ct gSplit) := by
  intro pins s σ H x xs v us Q I rx ru h
  obtain ⟨v0, dx, ds, d, rfl, sr, e, r1, r2, h⟩ := h
  unfold gSplit at e
  split at e
  · cases r1
    cases r2 with
    | cons r2 r3 =>
      cases r2; cases r3
      split at e
      · rename_i hz
        simp only [Option.some.injEq] at e
        subst e
        exact mt_split pins s σ _ _ _ v us Q I rx ru ⟨_, _, rfl, rfl, hz.1, hz.2, fun c hc => let ⟨l, s2⟩ := new_ok (o := .lst _) sr hc; h _ _ l s2 rfl (.lst (SqL.of upd_same) (RepL.strs _))⟩
      · exact nomatch e
  · exact nomatch e
theorem m_join {ct : String → Addr} : MtR X "str.join" (rDM X.K ct gJoin) := by
  intro pins s σ H x xs v us Q I rx ru h
  obtain ⟨v0, dx, ds, d, rfl, sr, e, r1, r2, h⟩ := h
  unfold gJoin at e
  split at e
  · rename_i a ys
    cases q1 : strsOf ys with
    | none => rw [q1] at e; exact nomatch e
    | some ns =>
      rw [q1] at e
      simp only [Option.bind_some] at e
      have e2 := strsOf_eq q1
      subst e2
      split at e
      · rename_i hz
        simp only [Option.some.injEq] at e
        subst e
        cases r1
        cases r2 with
        | cons r2 r3 =>
          cases r3
          cases r2 with
          | lst p q =>
            have e3 := RepL.of_strs q
            subst e3
            exact mt_join pins s σ _ _ _ v us Q I rx ru ⟨_, _, ns, rfl, rfl, .inl (p), hz, h _ v0 .refl sr rfl (.str _)⟩
      · exact nomatch e
  · exact nomatch e
end
end Gs

/-! G5: statements, targets, loops. -/
namespace Gs
open PySem L2

inductive RS where
  | nx (δ : Sl) (s : Sto) | rt (d : D) (s : Sto) | bk (δ : Sl) (s : Sto) | ct (δ : Sl) (s : Sto) | exc (e : Ex) (δ : Sl) (s : Sto) | stk
abbrev S := Sl → Sto → RS
def onS (K : PySem.W.Frag) (C : Cc) (v : Vw) (r : RS) (Dn : Ends) : Prop := match r with
  | .nx δ s => ∀ σ' v', RE K C σ' δ v' → Le v v' → v'.st = s → Dn.nx σ' v'.H
  | .bk δ s => ∀ σ' v', RE K C σ' δ v' → Le v v' → v'.st = s → Dn.bk σ' v'.H
  | .ct δ s => ∀ σ' v', RE K C σ' δ v' → Le v v' → v'.st = s → Dn.ct σ' v'.H
  | .rt d s => ∀ x v', Le C.v0 v' → SR K C.ct v' → v'.st = s → Rep K C.ct v'.G v'.m d x → Dn.rt x v'.H
  | .exc e δ s => ∀ cls dd σ' v', RE K C σ' δ v' → Le v v' → v'.st = s → RepX K C.ct v' e cls dd → C.W cls dd σ' v'.H
  | .stk => False
def liftS (K : PySem.W.Frag) (C : Cc) (f : S) : TS := fun Dn σ H => ∃ δ v, RE K C σ δ v ∧ v.H = H ∧ onS K C v (f δ v.st) Dn
abbrev SS (X : Cx) (C : Cc) (st : Stmt) (f : S) : Prop := PS X st (liftS X.K C f)
abbrev SSs (X : Cx) (C : Cc) (st : List Stmt) (f : S) : Prop := PSs X st (liftS X.K C f)
theorem ps_weak {X : Cx} {e : Stmt} {t t' : TS} (h : PS X e t) (w : ∀ Dn σ H, t' Dn σ H → t Dn σ H) : PS X e t' := ⟨fun pins s σ H Dn I z => h.run pins s σ H Dn I (w Dn σ H z)⟩
theorem pss_weak {X : Cx} {e : List Stmt} {t t' : TS} (h : PSs X e t) (w : ∀ Dn σ H, t' Dn σ H → t Dn σ H) : PSs X e t' := ⟨fun pins s σ H Dn I z => h.run pins s σ H Dn I (w Dn σ H z)⟩
section
variable {α β : Type} {K : PySem.W.Frag} {C : Cc} {σ : L2.St} {v v' : Vw} {Dn : Ends} {rel : α → β → Vw → Prop}
theorem onS_same {r : RS} (l : Le v v') (h : onS K C v r Dn) : onS K C v' r Dn := by
  cases r with
  | nx δ s => exact fun σ' w re z => h σ' w re (l.trans z)
  | bk δ s => exact fun σ' w re z => h σ' w re (l.trans z)
  | ct δ s => exact fun σ' w re z => h σ' w re (l.trans z)
  | rt d s => exact h
  | exc e δ s => exact fun cls dd σ' w re z => h cls dd σ' w re (l.trans z)
  | stk => exact h
/-- an expression ahead of a statement's rest -/
def sBind {α : Type} (r : R α) (δ : Sl) (k : α → Sto → RS) : RS := match r with
  | .ok a s => k a s
  | .exc e s => .exc e δ s
  | .stk => .stk
theorem onX_of {δ : Sl} {e : Ex} {s : Sto} (re : RE K C σ δ v) (h : onS K C v (.exc e δ s) Dn) : onX K C σ v e s := fun cls dd v' l sr es r => h cls dd σ v' (re.step l sr) l es r
theorem onS_R {δ : Sl} {r : R α} {k : α → Sto → RS} (re : RE K C σ δ v) (h : onS K C v (sBind r δ k) Dn) : on K C σ v rel r fun a _ v1 => onS K C v1 (k a v1.st) Dn := by
  cases r with
  | ok a s =>
    intro b v1 l sr e _
    subst e
    exact onS_same l h
  | exc e s => exact onX_of re h
  | stk => exact h
end

/-! ### blocks -/
def sNx : S := fun δ s => .nx δ s
def sSeq (f g : S) : S := fun δ s => match f δ s with
  | .nx δ' s' => g δ' s'
  | r => r
section
variable {X : Cx} {C : Cc} {pos : Pos} {st : Stmt} {rest : List Stmt} {f g : S}
theorem ss_nil : SSs X C [] sNx := pss_weak pss_nil fun Dn σ H ⟨δ, v, re, eH, h⟩ => by subst eH; exact h σ v re .refl rfl
theorem ss_one (h1 : SS X C st f) : SSs X C [st] f := pss_one h1
theorem ss_cons (h1 : SS X C st f) (h2 : SSs X C rest g) : SSs X C (st :: rest) (sSeq f g) := pss_weak (pss_cons h1 h2) fun Dn σ H ⟨δ, v, re, eH, h⟩ => by
  refine ⟨δ, v, re, eH, ?_⟩
  unfold sSeq at h
  cases e : f δ v.st with
  | nx δ' s' => rw [e] at h; exact fun σ' v' re' l es => ⟨δ', v', re', rfl, by subst es; exact onS_same l h⟩
  | rt d s' => rw [e] at h; exact h
  | bk δ' s' => rw [e] at h; exact h
  | ct δ' s' => rw [e] at h; exact h
  | exc e2 δ' s' => rw [e] at h; exact h
  | stk => rw [e] at h; exact h
theorem ss_pass : SS X C (.Pass pos) sNx := ps_weak ps_pass fun Dn σ H ⟨δ, v, re, eH, h⟩ => by subst eH; exact h σ v re .refl rfl
def sBk : S := fun δ s => .bk δ s
def sCt : S := fun δ s => .ct δ s
theorem ss_break : SS X C (.Break pos) sBk := ps_weak ps_break fun Dn σ H ⟨δ, v, re, eH, h⟩ => by subst eH; exact h σ v re .refl rfl
theorem ss_cont : SS X C (.Continue pos) sCt := ps_weak ps_continue fun Dn σ H ⟨δ, v, re, eH, h⟩ => by subst eH; exact h σ v re .refl rfl
def sRet (f : E) : S := fun δ s => sBind (f δ s) δ fun d s1 => .rt d s1
theorem ss_ret {e : Expr} {f : E} (he : SE X C e f) : SS X C (.Return (some e) pos) (sRet f) := ps_weak (ps_ret he) fun Dn σ H ⟨δ, v, re, eH, h⟩ =>
  ⟨δ, v, re, eH, on_mono (onS_R re h) fun d x v1 l1 s1 r1 h1 => h1 x v1 (re.le.trans l1) s1 rfl r1⟩
def sRetN : S := fun _ s => .rt .non s
theorem ss_retN : SS X C (.Return none pos) sRetN := ps_weak ps_retN fun Dn σ H ⟨δ, v, re, eH, h⟩ => by subst eH; exact h .non v re.le re.sr rfl .non
def sIf (t : T) (a b : S) : S := fun δ s => sBind (t δ s) δ fun k s1 => if k = true then a δ s1 else b δ s1
theorem ss_if {c : Expr} {a b : List Stmt} {t : T} {fa fb : S} (hc : ST X C c t) (ha : SSs X C a fa) (hb : SSs X C b fb) : SS X C (.If c a b pos) (sIf t fa fb) := ps_weak (ps_if hc ha hb) fun Dn σ H ⟨δ, v, re, eH, h⟩ => by
  refine ⟨δ, v, re, eH, on_mono (onS_R re h) fun k k2 v1 l1 s1 e h1 => ?_⟩
  cases e
  cases k with
  | true => exact ⟨δ, v1, re.step l1 s1, rfl, h1⟩
  | false => exact ⟨δ, v1, re.step l1 s1, rfl, h1⟩
def sDrop (f : E) : S := fun δ s => sBind (f δ s) δ fun _ s1 => .nx δ s1
theorem ss_expr {e : Expr} {f : E} (he : SE X C e f) (hs : swapsWith e none pos.line X.env = pure false := by rfl) : SS X C (.Expr e pos) (sDrop f) := ps_weak (ps_expr he hs) fun Dn σ H ⟨δ, v, re, eH, h⟩ =>
  ⟨δ, v, re, eH, on_mono (onS_R re h) fun d x v1 l1 s1 r1 h1 => h1 σ v1 (re.step l1 s1) .refl rfl⟩
def sStk : S := fun _ _ => .stk
theorem ss_never : SS X C st sStk := ps_weak ps_never fun Dn σ H ⟨δ, v, re, eH, h⟩ => h
def sSet (i : Nat) (f : E) : S := fun δ s => sBind (f δ s) δ fun d s1 => .nx (δ.set i (some d)) s1
theorem ss_set (i : Nat) {x : Str} {e : Expr} {f : E} {pos' : Pos} (he : SE X C e f) (hN : X.N.Nodup) (hi : X.N[i]? = some x := by rfl) (hx : Loc X.env.scope x := by first | exact Or.inl rfl | exact Or.inr rfl) (hs : swapsWith e (some (.Name x pos')) pos.line X.env = pure false := by rfl)
    (hf : X.fn x = true ∨ X.env.scope.names.lookup x = some .local := by first | exact Or.inr rfl | exact Or.inl rfl) : SS X C (.Assign [.Name x pos'] e pos) (sSet i f) := ps_weak (ps_set hN hi hx he hs hf) fun Dn σ H ⟨δ, v, re, eH, h⟩ =>
  ⟨δ, v, re, eH, on_mono (onS_R re h) fun d x v1 l1 s1 r1 h1 => h1 (σ.set i (some x)) v1 ((re.step l1 s1).setV i r1) .refl rfl⟩
end

/-! ### targets -/
inductive Pt where
  | nm (i : Nat) | tp (ps : List Pt)
mutual
def bindP : Pt → D → Sl → Option Sl
  | .nm i, d, δ => some (δ.set i (some d))
  | .tp ps, .tup ds, δ => bindPs ps ds δ
  | .tp ps, .lst ds, δ => bindPs ps ds δ
  | _, _, _ => none
def bindPs : List Pt → List D → Sl → Option Sl
  | [], [], δ => some δ
  | p :: ps, d :: ds, δ => match bindP p d δ with
    | some δ' => bindPs ps ds δ'
    | none => none
  | _, _, _ => none
end
mutual
def idxP : Pt → List Nat
  | .nm i => [i]
  | .tp ps => idxPs ps
def idxPs : List Pt → List Nat
  | [] => []
  | p :: ps => idxP p ++ idxPs ps
end
/-- σ' differs from σ at these places alone -/
def Off (is : List Nat) (σ σ' : L2.St) : Prop := σ'.length = σ.length ∧ ∀ j, j ∉ is → σ'[j]? = σ[j]?
theorem Off.refl {is : List Nat} {σ : L2.St} : Off is σ σ := ⟨rfl, fun _ _ => rfl⟩
theorem Off.trans {is js : List Nat} {σ σ1 σ2 : L2.St} (a : Off is σ σ1) (b : Off js σ1 σ2) : Off (is ++ js) σ σ2 :=
  ⟨b.1.trans a.1, fun j hj => (b.2 j fun z => hj (List.mem_append_right _ z)).trans (a.2 j fun z => hj (List.mem_append_left _ z))⟩
def liftG (K : PySem.W.Frag) (C : Cc) (p : Pt) : TG := fun x σ H Q => ∃ d δ v δ', RE K C σ δ v ∧ v.H = H ∧ Rep K C.ct v.G v.m d x ∧ bindP p d δ = some δ' ∧ ∀ σ', RE K C σ' δ' v → Off (idxP p) σ σ' → Q σ' H
def liftGs (K : PySem.W.Frag) (C : Cc) (ps : List Pt) : TGs := fun vs σ H Q => ∃ ds δ v δ', RE K C σ δ v ∧ v.H = H ∧ RepL K C.ct v.G v.m ds vs ∧ bindPs ps ds δ = some δ' ∧ ∀ σ', RE K C σ' δ' v → Off (idxPs ps) σ σ' → Q σ' H
abbrev SG (X : Cx) (C : Cc) (e : Expr) (p : Pt) : Prop := PG X e (liftG X.K C p)
abbrev SGs (X : Cx) (C : Cc) (es : List Expr) (ps : List Pt) : Prop := PGs X es (liftGs X.K C ps)
theorem pg_weak {X : Cx} {e : Expr} {t t' : TG} (h : PG X e t) (w : ∀ v σ H Q, t' v σ H Q → t v σ H Q) : PG X e t' := ⟨fun pins s σ H v u Q I r z => h.run pins s σ H v u Q I r (w v σ H Q z)⟩
theorem pgs_weak {X : Cx} {e : List Expr} {t t' : TGs} (h : PGs X e t) (w : ∀ v σ H Q, t' v σ H Q → t v σ H Q) : PGs X e t' := ⟨fun pins s σ H v u Q I r z => h.run pins s σ H v u Q I r (w v σ H Q z)⟩
theorem bindPs_len : ∀ {ps : List Pt} {ds : List D} {δ δ' : Sl}, bindPs ps ds δ = some δ' → ds.length = ps.length := by
  intro ps
  induction ps with
  | nil => intro ds δ δ' e; cases ds with
    | nil => rfl
    | cons a b => simp [bindPs] at e
  | cons p ps ih => intro ds δ δ' e; cases ds with
    | nil => simp [bindPs] at e
    | cons a b =>
      simp only [bindPs] at e
      cases q : bindP p a δ with
      | none => rw [q] at e; exact nomatch e
      | some δ1 => rw [q] at e; simp [ih e]
section
variable {X : Cx} {C : Cc} {pos : Pos}
theorem sg_name (i : Nat) {x : Str} (hN : X.N.Nodup) (hi : X.N[i]? = some x := by rfl) (hx : Loc X.env.scope x := by first | exact Or.inl rfl | exact Or.inr rfl) (hf : X.fn x = true ∨ X.env.scope.names.lookup x = some .local := by first | exact Or.inr rfl | exact Or.inl rfl) : SG X C (.Name x pos) (.nm i) :=
  pg_weak (pg_name hN hi hx hf) fun v σ H Q ⟨d, δ, w, δ', re, eH, r, e, h⟩ => by
    simp only [bindP, Option.some.injEq] at e
    subst e
    refine h _ (re.setV i r) ⟨by simp, fun j hj => ?_⟩
    rw [List.getElem?_set_ne]
    intro z
    exact hj (by simp [idxP, z])
theorem sgs_nil : SGs X C [] [] := pgs_weak pgs_nil fun v σ H Q ⟨ds, δ, w, δ', re, eH, r, e, h⟩ => by
  cases r with
  | nil =>
    simp only [bindPs, Option.some.injEq] at e
    subst e
    exact ⟨rfl, h σ re Off.refl⟩
  | cons a b => simp [bindPs] at e
theorem sgs_cons {e : Expr} {es : List Expr} {p : Pt} {ps : List Pt} (h1 : SG X C e p) (h2 : SGs X C es ps) (hs : (assignEach (e :: es) X.env).map (·.2) = assign e X.env :: (assignEach es X.env).map (·.2) := by rfl) : SGs X C (e :: es) (p :: ps) :=
  pgs_weak (pgs_cons h1 h2 hs) fun v σ H Q ⟨ds, δ, w, δ', re, eH, r, e, h⟩ => by
    cases r with
    | nil => simp [bindPs] at e
    | @cons _ _ d9 v0 ds0 vs0 a b =>
      simp only [bindPs] at e
      cases q : bindP p d9 δ with
      | none => rw [q] at e; exact nomatch e
      | some δ1 =>
        rw [q] at e
        exact ⟨v0, vs0, rfl, d9, δ, w, δ1, re, eH, a, q, fun σ1 re1 o1 => ⟨ds0, δ1, w, δ', re1, eH, b, e, fun σ2 re2 o2 => h σ2 re2 (o1.trans o2)⟩⟩
theorem sg_tup {es : List Expr} {k : Nat} {ps : List Pt} (hc : X.calm = true) (h : SGs X C es ps) (hl : es.length = ps.length := by rfl) (hn : (assignEach es X.env).length = es.length := by rfl) (hst : (assignEach es X.env).findIdx? (·.1) = none := by rfl) :
    SG X C (.Tuple es k pos) (.tp ps) := by
  refine ⟨fun pins s σ H v u Q I rv ⟨d, δ, w, δ', re, eH, r, e, z⟩ => ?_⟩
  subst eH
  cases r with
  | @tup _ _ a vs ds p q =>
    simp only [bindP] at e
    have l1 := bindPs_len e
    have l2 := q.length
    exact (pg_tup hc h hn hst).run pins s σ _ _ u Q I rv ⟨a, vs, rfl, sqt_mono re.sr.sub p, by omega, ds, δ, w, δ', re, rfl, q, e, fun σ' re' o => z σ' re' o⟩
  | @lst _ _ a vs ds p q =>
    simp only [bindP] at e
    have l1 := bindPs_len e
    have l2 := q.length
    exact (pg_lst hc h hn hst).run pins s σ _ _ u Q I rv ⟨a, vs, rfl, re.sr.sub.seq p, by omega, ds, δ, w, δ', re, rfl, q, e, fun σ' re' o => z σ' re' o⟩
  | non => simp [bindP] at e
  | bl b => simp [bindP] at e
  | int b => simp [bindP] at e
  | str b => simp [bindP] at e
  | fn b => simp [bindP] at e
  | ob b => simp [bindP] at e
  | ev0 b => simp [bindP] at e
  | ev n a b c d => simp [bindP] at e
  | clo a b c d f => simp [bindP] at e
  | dct p l q => simp [bindP] at e
def sBindP (p : Pt) (d : D) (δ : Sl) (s : Sto) : RS := match bindP p d δ with
  | some δ' => .nx δ' s
  | none => .stk
def sAsg (p : Pt) (f : E) : S := fun δ s => sBind (f δ s) δ fun d s1 => sBindP p d δ s1
theorem ss_asg {tg e : Expr} {p : Pt} {f : E} (he : SE X C e f) (hg : SG X C tg p) (hs : swapsWithSole [tg] e pos.line X.env = pure false := by rfl) (hw : swappedStores [tg] e X.env = pure none := by rfl)
    (h1 : (assignEach [tg] X.env).map (·.2) = [assign tg X.env] := by rfl) : SS X C (.Assign [tg] e pos) (sAsg p f) := ps_weak (ps_asg he hg hs hw h1) fun Dn σ H ⟨δ, v, re, eH, h⟩ =>
  ⟨δ, v, re, eH, on_mono (onS_R re h) fun d0 x v1 l1 s1 r1 h1 => by
    unfold sBindP at h1
    cases q : bindP p d0 δ with
    | none => rw [q] at h1; exact h1.elim
    | some δ' => rw [q] at h1; exact ⟨d0, δ, v1, δ', re.step l1 s1, rfl, r1, q, fun σ' re' _ => h1 σ' v1 re' .refl rfl⟩⟩
/-- x op= e -/
def sAug (i : Nat) (g : B2) (f : E) : S := fun δ s => match δ[i]? with
  | some (some x) => sBind (f δ s) δ fun y s1 => match g (rsv s1 x) (rsv s1 y) with
    | some z => .nx (δ.set i (some z)) s1
    | none => .stk
  | _ => .stk
theorem ss_aug (i : Nat) {x : Str} {e : Expr} {f : E} {op : Operator} {g : B2} {pos' : Pos} (ho : OpR X (inplaceOp op) (rD X.K C.ct g)) (he : SE X C e f) (hN : X.N.Nodup) (hi : X.N[i]? = some x := by rfl) (hx : Loc X.env.scope x := by first | exact Or.inl rfl | exact Or.inr rfl)
    (hf : X.fn x = true ∨ X.env.scope.names.lookup x = some .local := by first | exact Or.inr rfl | exact Or.inl rfl) : SS X C (.AugAssign (.Name x pos') op e pos) (sAug i g f) :=
  ps_weak (ps_aug hN hi hx he ho hf) fun Dn σ H ⟨δ, v, re, eH, h⟩ => by
    unfold sAug at h
    split at h
    · rename_i d0 q
      obtain ⟨v0, e0, r0⟩ := re.sl i d0 q
      refine ⟨v0, e0, δ, v, re, eH, on_mono (onS_R re h) fun d x v1 l1 s1 r1 h1 => ?_⟩
      split at h1
      · rename_i w z
        exact ⟨v1, _, _, w, rfl, s1, z, (l1.rep r0).top s1, r1.top s1, fun x2 v2 l2 s2 e2 r2 => h1 _ v2 (((re.step l1 s1).step l2 s2).setV i r2) l2 e2⟩
      · exact h1.elim
    · exact h.elim
def gAddI : B2
  | .int i, .int j => some (.int (i + j))
  | .str x, .str y => if x.length + y.length ≤ sizeLine then some (.str (x ++ y)) else none
  | _, _ => none
theorem io_addI {ct : String → Addr} : OpR X (inplaceOp .Add) (rD X.K ct gAddI) := by
  intro pins s σ H x y v u Q I rx ry h
  obtain ⟨v0, dx, dy, d, rfl, sr, e, r1, r2, h⟩ := h
  unfold gAddI at e
  split at e
  case h_3 => exact nomatch e
  all_goals cases r1
  all_goals cases r2
  all_goals try simp only [Option.some.injEq] at e
  · subst e
    exact iop_add pins s σ _ _ _ v u Q I rx ry ⟨_, _, rfl, rfl, h _ v0 .refl sr rfl (.int _)⟩
  · split at e
    · rename_i hz
      simp only [Option.some.injEq] at e
      subst e
      exact iop_add_str pins s σ _ _ _ v u Q I rx ry ⟨_, _, rfl, rfl, hz, h _ v0 .refl sr rfl (.str _)⟩
    · exact nomatch e
theorem io_sub {ct : String → Addr} : OpR X (inplaceOp .Sub) (rD X.K ct gSub) := by
  intro pins s σ H x y v u Q I rx ry h
  obtain ⟨v0, dx, dy, d, rfl, sr, e, r1, r2, h⟩ := h
  unfold gSub at e
  split at e
  case h_2 => exact nomatch e
  cases r1
  cases r2
  simp only [Option.some.injEq] at e
  subst e
  exact iop_sub pins s σ _ _ _ v u Q I rx ry ⟨_, _, rfl, rfl, h _ v0 .refl sr rfl (.int _)⟩
end

/-! ### for -/
structure ItOk (K : PySem.W.Frag) (ct : String → Addr) (J : It) (v : Vw) (items : List D) : Prop where
  go : ∀ i w, Le v w → SR K ct w → i < items.length → J.go i w.H
  stop : ∀ i w, Le v w → SR K ct w → items.length ≤ i → J.stop i w.H
  yld : ∀ i w x H', Le v w → SR K ct w → i < items.length → J.yld i w.H x H' → ∃ d w2, items[i]? = some d ∧ w2.H = H' ∧ Le w w2 ∧ SR K ct w2 ∧ w2.st = w.st ∧ Rep K ct w2.G w2.m d x
abbrev rI (K : PySem.W.Frag) (ct : String → Addr) : List D → It → Vw → Prop := fun items J v => ItOk K ct J v items
def liftI (K : PySem.W.Frag) (C : Cc) (f : As) : TI := fun σ H P => ∃ δ v, RE K C σ δ v ∧ v.H = H ∧ on K C σ v (rI K C.ct) (f δ v.st) fun _ J v' => P J v'.H
abbrev SI (X : Cx) (C : Cc) (tg e : Expr) (f : As) : Prop := PI X tg e (liftI X.K C f)
theorem pi_weak {X : Cx} {tg e : Expr} {t t' : TI} (h : PI X tg e t) (w : ∀ σ H Q, t' σ H Q → t σ H Q) : PI X tg e t' := ⟨fun pins s σ H Q I z => h.run pins s σ H Q I (w σ H Q z)⟩
def forD (p : Pt) (body : S) : List D → Sl → Sto → RS
  | [], δ, s => .nx δ s
  | d :: ds, δ, s => match bindP p d δ with
    | none => .stk
    | some δ1 => match body δ1 s with
      | .nx δ2 s2 => forD p body ds δ2 s2
      | .ct δ2 s2 => forD p body ds δ2 s2
      | .bk δ2 s2 => .nx δ2 s2
      | r => r
def sFor (it : As) (p : Pt) (body : S) : S := fun δ s => sBind (it δ s) δ fun items s1 => forD p body items δ s1
section
variable {X : Cx} {C : Cc} {pos : Pos} {tg iter : Expr}
theorem ss_for {body : List Stmt} {f : As} {p : Pt} {fb : S} (hp : PassesOwn (model X.prog X.w) X.A X.env X.xe) (hc : X.calm = true) (hi : SI X C tg iter f) (hg : SG X C tg p) (hb : SSs X C body fb)
    (hs : ∀ x, foldedSetIterable iter X.env x = pure x := by intro _; rfl) : SS X C (.For tg iter body [] pos) (sFor f p fb) := ps_weak (ps_for hp hc hi hg hb hs) fun Dn σ H ⟨δ, v, re, eH, h⟩ => by
  refine ⟨δ, v, re, eH, on_mono (onS_R re h) fun items J v1 l1 s1 ok h0 => ?_⟩
  refine ⟨fun i m σ H => m = items.length - i ∧ i ≤ items.length ∧ ∃ δ w, RE X.K C σ δ w ∧ w.H = H ∧ Le v1 w ∧ onS X.K C w (forD p fb (items.drop i) δ w.st) Dn, ⟨items.length, by simp, Nat.zero_le _, δ, v1, re.step l1 s1, rfl, .refl, h0⟩, ?_⟩
  rintro i m σ2 H2 ⟨rfl, hi, δ2, w, re2, rfl, lw, q⟩
  by_cases hlt : i < items.length
  · refine .inr ⟨ok.go i w lw re2.sr hlt, fun σ H => ∃ δ w, RE X.K C σ δ w ∧ w.H = H ∧ Le v1 w ∧ onS X.K C w (forD p fb (items.drop (i + 1)) δ w.st) Dn, fun σ' H' n => ⟨items.length - (i + 1), by omega, rfl, hlt, n⟩, fun x H' y => ?_⟩
    obtain ⟨d, w3, ed, rfl, l3, s3, e3, r3⟩ := ok.yld i w x H' lw re2.sr hlt y
    have ed2 : items.drop i = d :: items.drop (i + 1) := by
      rw [List.drop_eq_getElem_cons hlt]
      rw [List.getElem?_eq_getElem hlt] at ed
      rw [Option.some.inj ed]
    rw [ed2] at q
    simp only [forD] at q
    cases eb : bindP p d δ2 with
    | none => rw [eb] at q; exact q.elim
    | some δ3 =>
      rw [eb] at q
      refine ⟨d, δ2, w3, δ3, re2.step l3 s3, rfl, r3, eb, fun σ4 re4 _ => ⟨δ3, w3, re4, rfl, ?_⟩⟩
      simp only at q
      rw [e3]
      cases ef : fb δ3 w.st with
      | nx δ4 s4 => rw [ef] at q; exact fun σ' w' re' l' es => ⟨δ4, w', re', rfl, (lw.trans l3).trans l', by subst es; exact onS_same (l3.trans l') q⟩
      | ct δ4 s4 => rw [ef] at q; exact fun σ' w' re' l' es => ⟨δ4, w', re', rfl, (lw.trans l3).trans l', by subst es; exact onS_same (l3.trans l') q⟩
      | bk δ4 s4 => rw [ef] at q; exact fun σ' w' re' l' es => q σ' w' re' (l3.trans l') es
      | rt d s4 => rw [ef] at q; exact q
      | exc e4 δ4 s4 => rw [ef] at q; exact fun cls dd σ' w' re' l' es rx => q cls dd σ' w' re' (l3.trans l') es rx
      | stk => rw [ef] at q; exact q
  · have ei : i = items.length := by omega
    subst ei
    rw [List.drop_length] at q
    exact .inl ⟨ok.stop _ w lw re2.sr (Nat.le_refl _), q σ2 w re2 .refl rfl⟩

/-! ### what is walked -/
theorem itOk_list {K : PySem.W.Frag} {ct : String → Addr} {v : Vw} {a : Addr} {vs : List V} {ds : List D} (h : SqL K v.G a vs) (r : RepL K ct v.G v.m ds vs) : ItOk K ct (Itl K a) v ds where
  go := fun i w l s hi => by
    obtain ⟨x, e, _⟩ := r.get (List.getElem?_eq_getElem hi)
    exact ⟨vs, x, s.sub.seq (l.g.seq h), e⟩
  stop := fun i w l s hi => ⟨vs, s.sub.seq (l.g.seq h), by rw [← r.length]; exact hi⟩
  yld := fun i w x H' l s hi y => by
    obtain ⟨x', e, rv⟩ := r.get (List.getElem?_eq_getElem hi)
    obtain ⟨rfl, y2⟩ := y
    have z := y2 vs (s.sub.seq (l.g.seq h))
    rw [e] at z
    cases z
    exact ⟨_, w, List.getElem?_eq_getElem hi, rfl, .refl, s, rfl, l.rep rv⟩
theorem itOk_tup {K : PySem.W.Frag} {ct : String → Addr} {v : Vw} {a : Addr} {vs : List V} {ds : List D} (h : SqT K v.G a vs) (r : RepL K ct v.G v.m ds vs) : ItOk K ct (Itt K a) v ds where
  go := fun i w l s hi => by
    obtain ⟨x, e, _⟩ := r.get (List.getElem?_eq_getElem hi)
    exact ⟨vs, x, sqt_mono s.sub (sqt_mono l.g h), e⟩
  stop := fun i w l s hi => ⟨vs, sqt_mono s.sub (sqt_mono l.g h), by rw [← r.length]; exact hi⟩
  yld := fun i w x H' l s hi y => by
    obtain ⟨x', e, rv⟩ := r.get (List.getElem?_eq_getElem hi)
    obtain ⟨rfl, y2⟩ := y
    have z := y2 vs (sqt_mono s.sub (sqt_mono l.g h))
    rw [e] at z
    cases z
    exact ⟨_, w, List.getElem?_eq_getElem hi, rfl, .refl, s, rfl, l.rep rv⟩
theorem itOk_str {K : PySem.W.Frag} {ct : String → Addr} {v : Vw} {x : Str} : ItOk K ct (Its x) v (signs x) where
  go := fun i w l s hi => by show i < x.cps.size; simpa [signs] using hi
  stop := fun i w l s hi => by show x.cps.size ≤ i; simpa [signs] using hi
  yld := fun i w z H' l s hi y => by
    obtain ⟨rfl, c, e, rfl⟩ := y
    refine ⟨.str ⟨#[c]⟩, w, ?_, rfl, .refl, s, rfl, .str _⟩
    simp [signs, e]
/-- the things of a list (frozen), a tuple, a text -/
def seqOf : D → Option (List D)
  | .lst xs => some xs
  | .tup xs => some xs
  | .str x => some (signs x)
  | _ => none
def iSeq (f : E) : As := fun δ s => (f δ s).bind fun d s1 => R.ofO (seqOf d) s1
theorem si_seq {e : Expr} {f : E} (he : SE X C e f) : SI X C tg e (iSeq f) := by
  refine ⟨fun pins s σ H Rr I ⟨δ, v, re, eH, h⟩ => ?_⟩
  unfold iSeq at h
  have hz := on_bind (rel := rE X.K C.ct) h
  cases q : f δ v.st with
  | stk => rw [q] at hz; exact hz.elim
  | exc e s1 => exact (pi_list he).run pins s σ H Rr I ⟨δ, v, re, eH, by rw [q] at hz ⊢; exact hz⟩
  | ok d s1 =>
    rw [q] at hz
    have go : ∀ (P : V → Vw → Prop), (∀ x v1, Le v v1 → SR X.K C.ct v1 → v1.st = s1 → Rep X.K C.ct v1.G v1.m d x → P x v1) → on X.K C σ v (rE X.K C.ct) (f δ v.st) fun _ x v' => P x v' := fun P w => by rw [q]; exact w
    cases d with
    | lst xs =>
      refine (pi_list he).run pins s σ H Rr I ⟨δ, v, re, eH, go _ fun x v1 l1 sr1 es r1 => ?_⟩
      have h9 := hz x v1 l1 sr1 es r1
      cases r1 with
      | @lst _ _ a vs _ p rl => exact ⟨a, rfl, ⟨vs, sr1.sub.seq p⟩, on_self sr1 h9 (itOk_list p rl)⟩
    | tup xs =>
      refine (pi_tup he).run pins s σ H Rr I ⟨δ, v, re, eH, go _ fun x v1 l1 sr1 es r1 => ?_⟩
      have h9 := hz x v1 l1 sr1 es r1
      cases r1 with
      | @tup _ _ a vs _ p rl => exact ⟨a, rfl, ⟨vs, sqt_mono sr1.sub p⟩, on_self sr1 h9 (itOk_tup p rl)⟩
    | str z =>
      refine (pi_str he).run pins s σ H Rr I ⟨δ, v, re, eH, go _ fun x v1 l1 sr1 es r1 => ?_⟩
      have h9 := hz x v1 l1 sr1 es r1
      cases r1
      exact ⟨z, rfl, on_self sr1 h9 itOk_str⟩
    | _ => exact (pi_list he).run pins s σ H Rr I ⟨δ, v, re, eH, go _ fun x v1 l1 sr1 es r1 => (hz x v1 l1 sr1 es r1).elim⟩
/-- the whole numbers lo, lo + 1, .. -/
def rngD (lo : Int) (n : Nat) : List D := (List.range n).map fun (i : Nat) => .int (lo + (i : Int))
theorem ints_get {lo : Int} {n i : Nat} (h : i < n) : (rngD lo n)[i]? = some (.int (lo + (i : Int))) := by simp [rngD, h]
theorem itOk_rng {K : PySem.W.Frag} {ct : String → Addr} {v : Vw} {lo : Int} {n : Nat} : ItOk K ct (Itr lo n) v (rngD lo n) where
  go := fun i w l s hi => by show i < n; simpa [rngD] using hi
  stop := fun i w l s hi => by show n ≤ i; simpa [rngD] using hi
  yld := fun i w z H' l s hi y => by
    obtain ⟨rfl, rfl⟩ := y
    exact ⟨_, w, ints_get (by simpa [rngD] using hi), rfl, .refl, s, rfl, .int _⟩
def iRange1 (a : As) : As := fun δ s => (a δ s).bind fun ds s1 => match ds with
  | [.int j] => if -(2 ^ 62) ≤ j ∧ j < 2 ^ 62 then .ok (rngD 0 j.toNat) s1 else .stk
  | _ => .stk
def iRange2 (a : As) : As := fun δ s => (a δ s).bind fun ds s1 => match ds with
  | [.int i, .int j] => if -(2 ^ 62) ≤ i ∧ i < 2 ^ 62 ∧ -(2 ^ 62) ≤ j ∧ j < 2 ^ 62 then .ok (rngD i (j - i).toNat) s1 else .stk
  | _ => .stk
theorem si_range1 {a : Expr} {f : As} {p pos : Pos} (hg : Gl X "range") (hm : X.mg "range" = none) (ha : SA X C [a] f) (hs : starEach [a] X.env = [(false, eval a X.env)] := by rfl) : SI X C tg (.Call (.Name "range" p) [a] [] pos) (iRange1 f) :=
  pi_weak (pi_range1 hg hm ha hs) fun σ H P ⟨δ, v, re, eH, h⟩ => ⟨δ, v, re, eH, on_mono (on_bind h) fun ds vs v1 l1 s1 r1 h1 => by
    split at h1
    · rename_i j
      cases r1 with
      | cons r2 r3 =>
        cases r2; cases r3
        split at h1
        · rename_i hz
          exact ⟨j, rfl, hz.1, hz.2, on_self s1 h1 itOk_rng⟩
        · exact h1.elim
    · exact h1.elim⟩
theorem si_range2 {a b : Expr} {f : As} {p pos : Pos} (hg : Gl X "range") (hm : X.mg "range" = none) (ha : SA X C [a, b] f) (hs : starEach [a, b] X.env = [(false, eval a X.env), (false, eval b X.env)] := by rfl) (hs2 : starEach [b] X.env = [(false, eval b X.env)] := by rfl) :
    SI X C tg (.Call (.Name "range" p) [a, b] [] pos) (iRange2 f) :=
  pi_weak (pi_range2 hg hm ha hs hs2) fun σ H P ⟨δ, v, re, eH, h⟩ => ⟨δ, v, re, eH, on_mono (on_bind h) fun ds vs v1 l1 s1 r1 h1 => by
    split at h1
    · rename_i i j
      cases r1 with
      | cons r2 r3 =>
        cases r3 with
        | cons r3 r4 =>
          cases r2; cases r3; cases r4
          split at h1
          · rename_i hz
            exact ⟨i, j, rfl, hz, on_self s1 h1 itOk_rng⟩
          · exact h1.elim
    · exact h1.elim⟩
end

/-! ### while -/
def whileD (c : T) (body : S) : Nat → Sl → Sto → RS
  | 0, _, _ => .stk
  | n + 1, δ, s => match c δ s with
    | .ok true s1 => match body δ s1 with
      | .nx δ2 s2 => whileD c body n δ2 s2
      | .ct δ2 s2 => whileD c body n δ2 s2
      | .bk δ2 s2 => .nx δ2 s2
      | r => r
    | .ok false s1 => .nx δ s1
    | .exc e s1 => .exc e δ s1
    | .stk => .stk
section
variable {X : Cx} {C : Cc} {pos : Pos}
theorem ss_while (n : Nat) {c : Expr} {body : List Stmt} {t : T} {fb : S} (hp : PassesOwn (model X.prog X.w) X.A X.env X.xe) (hc : ST X C c t) (hb : SSs X C body fb) : SS X C (.While c body [] pos) (whileD t fb n) :=
  ps_weak (ps_while hp hc hb) fun Dn σ H ⟨δ, v, re, eH, h⟩ => by
    refine ⟨fun m σ H => ∃ δ v, RE X.K C σ δ v ∧ v.H = H ∧ onS X.K C v (whileD t fb m δ v.st) Dn, ⟨n, δ, v, re, eH, h⟩, ?_⟩
    rintro m σ2 H2 ⟨δ2, w, re2, rfl, q⟩
    cases m with
    | zero => exact q.elim
    | succ m =>
      simp only [whileD] at q
      refine ⟨δ2, w, re2, rfl, ?_⟩
      cases e : t δ2 w.st with
      | stk => rw [e] at q; exact q.elim
      | exc ex s1 => rw [e] at q; exact onX_of re2 q
      | ok b s1 =>
        rw [e] at q
        intro b2 w3 l3 s3 es eb
        cases eb
        cases b with
        | false =>
          rw [if_neg Bool.false_ne_true]
          exact q σ2 w3 (re2.step l3 s3) l3 es
        | true =>
          rw [if_pos rfl]
          refine ⟨fun σ H => ∃ δ v, RE X.K C σ δ v ∧ v.H = H ∧ onS X.K C v (whileD t fb m δ v.st) Dn, fun σ' H' z => ⟨m, Nat.lt_succ_self _, z⟩, δ2, w3, re2.step l3 s3, rfl, ?_⟩
          simp only at q
          subst es
          cases ef : fb δ2 w3.st with
          | nx δ4 s4 => rw [ef] at q; exact fun σ' w' re' l' es => ⟨δ4, w', re', rfl, by subst es; exact onS_same (l3.trans l') q⟩
          | ct δ4 s4 => rw [ef] at q; exact fun σ' w' re' l' es => ⟨δ4, w', re', rfl, by subst es; exact onS_same (l3.trans l') q⟩
          | bk δ4 s4 => rw [ef] at q; exact fun σ' w' re' l' es => q σ' w' re' (l3.trans l') es
          | rt d s4 => rw [ef] at q; exact q
          | exc e4 δ4 s4 => rw [ef] at q; exact fun cls dd σ' w' re' l' es rx => q cls dd σ' w' re' (l3.trans l') es rx
          | stk => rw [ef] at q; exact q
end
end Gs

/-! G6: defs by their function over data and store, calls, new lists, comprehensions, methods of lists. -/
namespace Gs
open PySem L2

/-- a def's promise: what its function says of the arguments' data and the store -/
def spG (K : PySem.W.Frag) (ct : String → Addr) (n : Nat) (F : List D → Sto → R D) : Sp := fun vs H Q E => ∃ v ds, v.H = H ∧ SR K ct v ∧ ds.length = n ∧ RepL K ct v.G v.m ds vs ∧ match F ds v.st with
  | .ok d s => ∀ x v', Le v v' → SR K ct v' → v'.st = s → Rep K ct v'.G v'.m d x → Q x v'.H
  | .exc e s => ∀ cls dd v', Le v v' → SR K ct v' → v'.st = s → RepX K ct v' e cls dd → E cls dd v'.H
  | .stk => False
/-- a body as a function of the arguments: N names -/
def runG (N : Nat) (body : S) (ds : List D) (s : Sto) : R D := match body (ds.map some ++ List.replicate (N - ds.length) none) s with
  | .nx _ s' => .ok .non s'
  | .rt d s' => .ok d s'
  | .exc e _ s' => .exc e s'
  | _ => .stk
theorem re_start {K : PySem.W.Frag} {C : Cc} {v : Vw} {ds : List D} {vs : List V} {N : List Str} (l : Le C.v0 v) (sr : SR K C.ct v) (r : RepL K C.ct v.G v.m ds vs) (hn : ds.length ≤ N.length) : RE K C (L2.start N vs) (ds.map some ++ List.replicate (N.length - ds.length) none) v := by
  have hl := r.length
  refine ⟨l, sr, by simp [L2.start]; omega, fun i d hs => ?_⟩
  unfold L2.start
  by_cases h : i < ds.length
  · rw [List.getElem?_append_left (by simpa using h)] at hs
    rw [List.getElem?_append_left (by simp; omega)]
    obtain ⟨x, e1, r1⟩ := r.get (List.getElem?_eq_getElem h)
    rw [List.getElem?_map, List.getElem?_eq_getElem h] at hs
    rw [List.getElem?_map, e1]
    cases hs
    exact ⟨x, rfl, r1⟩
  · rw [List.getElem?_append_right (by simpa using h)] at hs
    rw [List.getElem?_replicate] at hs
    split at hs
    · cases hs
    · exact nomatch hs
section
variable {P : Program} {w : World} {K : PySem.W.Frag} {mg : Str → Option Value} {base : Heap} {ct : String → Addr}
/-- a def of the text keeps the promise of its body's function -/
theorem fn_ok {x qual : Str} {st : Stmt} {f : Addr} {fd : FuncData} {N ps : List Str} {k : Nat} {body : S} (F : L2.Fun K x qual st f fd) (sc : FnScope N ps (defScope st)) (hn : ps.length ≤ N.length)
    (hb : ∀ (cdv : Value) (A : Around) (outer : List Env) (s : Shared) (H : Hp) (v : Vw) (E : XK), Room k (A.deeper (PyProof.Rows.envOfC qual (defScope st) s.heap.objs.size f cdv)) →
      SSs (cxOf (L2.CX P w) P w K mg base N qual (defScope st) f cdv A outer s H E) ⟨v, ct, fun cls d _ H => E cls d H⟩ (defBody st) body) :
    FnOk P w K mg base (L2.CX P w) (k + 1) f fd ps (spG K ct ps.length (runG N.length body)) := by
  refine F.okX sc (fun vs H Q E ⟨v, ds, e, sr, l, r, _⟩ => by rw [← l, r.length]) (fun cdv A outer s H vs Q E hr ⟨v, ds, e, sr, l, r, h⟩ => ⟨_, hb cdv A outer s H v E hr, ?_⟩)
  subst e
  have rs : RE K ⟨v, ct, fun cls d _ H => E cls d H⟩ (L2.start N vs) (ds.map some ++ List.replicate (N.length - ds.length) none) v := re_start .refl sr r (by omega)
  refine ⟨_, v, rs, rfl, ?_⟩
  unfold runG at h
  cases e : body (ds.map some ++ List.replicate (N.length - ds.length) none) v.st with
  | nx δ s => rw [e] at h; exact fun σ' v' re l es => h .non v' l re.sr es .non
  | rt d s => rw [e] at h; exact fun x v' l sr' es r => h x v' l sr' es r
  | exc e2 δ s => rw [e] at h; exact fun cls dd σ' v' re l es rx => h cls dd v' l re.sr es rx
  | bk δ s => rw [e] at h; exact h.elim
  | ct δ s => rw [e] at h; exact h.elim
  | stk => rw [e] at h; exact h.elim
theorem fn_zero {f : Addr} {fd : FuncData} {ps : List Str} : FnOk P w K mg base (L2.CX P w) 0 f fd ps (spG K ct ps.length fun _ _ => .stk) :=
  ⟨fun vs H Q E ⟨v, ds, e, sr, l, r, h⟩ => h.elim, fun A outer s H args us vs Q E _ _ _ _ ⟨v, ds, e, sr, l, r, h⟩ => h.elim⟩
end

/-! ### calls -/
def eCall (F : List D → Sto → R D) (a : As) : E := fun δ s => (a δ s).bind F
/-- an argument list gives as many as it has -/
def LenA (fa : As) (n : Nat) : Prop := ∀ δ s ds s', fa δ s = .ok ds s' → ds.length = n
theorem lenA_nil : LenA aNil 0 := fun δ s ds s' h => by cases h; rfl
theorem lenA_cons {f : E} {r : As} {n : Nat} (h : LenA r n) : LenA (aCons f r) (n + 1) := fun δ s ds s' e => by
  unfold aCons at e
  cases q : f δ s with
  | stk => rw [q] at e; exact nomatch e
  | exc e2 s2 => rw [q] at e; exact nomatch e
  | ok d s2 =>
    rw [q] at e
    cases q2 : r δ s2 with
    | stk => simp only [R.bind, q2] at e; exact nomatch e
    | exc e2 s3 => simp only [R.bind, q2] at e; exact nomatch e
    | ok xs s3 =>
      simp only [R.bind, q2, R.ok.injEq] at e
      rw [← e.1]
      simp [h δ s2 xs s3 q2]
theorem on_eq {α β : Type} {K : PySem.W.Frag} {C : Cc} {σ : L2.St} {v : Vw} {rel : α → β → Vw → Prop} {r : R α} {P : α → β → Vw → Prop} (h : on K C σ v rel r P) : on K C σ v rel r fun a b v' => P a b v' ∧ ∃ s, r = .ok a s := by
  cases r with
  | ok a s => exact fun b v' l sr e q => ⟨h b v' l sr e q, s, rfl⟩
  | exc e s => exact h
  | stk => exact h
section
variable {X : Cx} {C : Cc} {pos p : Pos} {x : Str} {e : Expr} {es : List Expr} {fa : As} {k n : Nat} {f : Addr} {fd : FuncData} {ps : List Str} {F : List D → Sto → R D}
theorem on_sp {K : PySem.W.Frag} {σ : L2.St} {v : Vw} {ds : List D} {vs : List V} {Q : VK} (sr : SR K C.ct v) (hl : ds.length = n) (r : RepL K C.ct v.G v.m ds vs) (h : on K C σ v (rE K C.ct) (F ds v.st) fun _ x v' => Q x v'.H) : spG K C.ct n F vs v.H Q (WE C.W σ) := by
  refine ⟨v, ds, rfl, sr, hl, r, ?_⟩
  cases q : F ds v.st with
  | ok d s => rw [q] at h; exact h
  | exc e s => rw [q] at h; exact h
  | stk => rw [q] at h; exact h
theorem se_call (hF : FnOk X.prog X.w X.K X.mg X.base (L2.CX X.prog X.w) k f fd ps (spG X.K C.ct n F)) (hr : Room k X.A) (tk : Takes X C.W) (hg : Gl X x) (hm : X.mg x = some (.ref f)) (hk : PySem.W.keepIn X.K (.ref f) = true) (hb : Binds X.K fd ps [])
    (ha : SA X C (e :: es) fa) (hl : LenA fa n) (hdb : (x == ("__debug__" : Str)) = false := by decide) (he : starEach (e :: es) X.env = (false, eval e X.env) :: starEach es X.env := by rfl) (hpl : (backTo pos (starEach es X.env)).any (·.1) = false := by rfl) :
    SE X C (.Call (.Name x p) (e :: es) [] pos) (eCall F fa) :=
  pe_weak (pe_callS hF hr hg hm hk hb (fun σ => passAt tk σ) ha hdb he hpl) fun σ H Q ⟨δ, v, re, eH, h⟩ => ⟨δ, v, re, eH, on_mono (on_eq (on_bind h)) fun ds vs v1 l1 s1 r1 h1 => by
    obtain ⟨h1, s, q⟩ := h1
    exact on_sp s1 (hl _ _ _ _ q) r1 h1⟩
end

/-! ### new lists -/
def onF (K : PySem.W.Frag) (C : Cc) (σ : L2.St) (v : Vw) (r : R (List D)) (P : List D → Addr → Vw → Prop) : Prop := match r with
  | .ok xs s => ∀ p vs v', Le v v' → SR K C.ct v' → v'.st = s → v.H p = none → v'.G p = none → v'.H p = some (.lst vs) → ¬ v'.owns p → RepL K C.ct v'.G v'.m xs vs → P xs p v'
  | .exc e s => onX K C σ v e s
  | .stk => False
abbrev Fr := Sl → Sto → R (List D)
def liftF (K : PySem.W.Frag) (C : Cc) (f : Fr) : TE := fun σ H Q => ∃ δ v, RE K C σ δ v ∧ v.H = H ∧ onF K C σ v (f δ v.st) fun _ p v' => Q (.ref p) v'.H
abbrev SF (X : Cx) (C : Cc) (e : Expr) (f : Fr) : Prop := PE X e (liftF X.K C f)
/-- a new list, frozen; a thing of the store -/
def eFz (f : Fr) : E := fun δ s => (f δ s).bind fun xs s1 => .ok (.lst xs) s1
def eNw (f : Fr) : E := fun δ s => (f δ s).bind fun xs s1 => .ok (.ob s1.length) (s1 ++ [.lst xs])
section
variable {K : PySem.W.Frag} {ct : String → Addr}
theorem owns_same {G G' H H' : Hp} {m : Nat → Option Addr} {st : Sto} {b : Addr} (hh : ∀ (i : Nat) (o : O) (a : Addr), st[i]? = some o → o.live = true → m i = some a → ∀ C fs dx, H' a = some (.ins C dx fs) → H a = some (.ins C dx fs)) (h : (Vw.mk G' H' m st).owns b) : (Vw.mk G H m st).owns b := by
  obtain ⟨i, o, a, e, l, em, z⟩ := h
  refine ⟨i, o, a, e, l, em, z.imp id fun ⟨C, fs, q⟩ => ⟨C, fs, hh i o a e l em C fs b q⟩⟩
/-- a new object that is none of the store's, frozen -/
theorem frz_new {v v' : Vw} {p : Addr} {u : HO} (l : Le v v') (s : SR K ct v') (hp : v.H p = none) (gp : v'.G p = none) (hu : v'.H p = some u) (no : ¬ v'.owns p) : Le v ⟨upd v'.G p u, v'.H, v'.m, v'.st⟩ ∧ SR K ct ⟨upd v'.G p u, v'.H, v'.m, v'.st⟩ := by
  have sg := same_new gp u
  refine ⟨⟨l.g.trans sg, l.m, l.h, fun b q => ?_, fun b q => l.ow b (owns_same (fun _ _ _ _ _ _ _ _ _ z => z) q), l.al⟩, fun b w q => ?_, s.dom, fun i o e lv => ?_, s.inj, fun i kvs e => FkR.mono (v := v') (v' := ⟨upd v'.G p u, v'.H, v'.m, v'.st⟩) sg .refl (s.fk i kvs e)⟩
  · by_cases z : b = p
    · exact .inr (.inl (z ▸ hp))
    · have q' : upd v'.G p u b ≠ none := q
      rw [upd_ne z] at q'
      exact l.nw b q'
  · have q' : upd v'.G p u b = some w := q
    by_cases z : b = p
    · rw [z, upd_same] at q'
      cases q'
      show v'.H b = some u
      rw [z]
      exact hu
    · rw [upd_ne z] at q'
      exact s.sub _ _ q'
  · obtain ⟨a, em, ga, r⟩ := s.obj i o e lv
    have na : a ≠ p := fun z => no ⟨i, o, a, e, lv, em, .inl z.symm⟩
    exact ⟨a, em, (upd_ne na).trans ga, r.mono' (v := v') sg .refl rfl fun C dx fs q0 q1 q2 => ⟨rfl, (upd_ne fun z => no ⟨i, o, a, e, lv, em, .inr ⟨C, fs, by rw [← z]; exact q0⟩⟩).trans q2⟩⟩
/-- a new list, from here on the store's -/
theorem adopt {v v' : Vw} {p : Addr} {xs : List D} {vs : List V} (l : Le v v') (s : SR K ct v') (hp : v.H p = none) (gp : v'.G p = none) (hu : v'.H p = some (.lst vs)) (no : ¬ v'.owns p) (r : RepL K ct v'.G v'.m xs vs) :
    Le v (v'.alloc p v'.H (.lst xs)) ∧ SR K ct (v'.alloc p v'.H (.lst xs)) := by
  have m0 : v'.m v'.st.length = none := s.dom _ (Nat.le_refl _)
  have gr : Grow v'.m (mset v'.m v'.st.length p) := mset_grow m0
  have get : ∀ {i : Nat} {u : O}, (v'.alloc p v'.H (.lst xs)).st[i]? = some u → (i < v'.st.length ∧ v'.st[i]? = some u) ∨ (i = v'.st.length ∧ u = .lst xs) := fun e => get_snoc e
  have np : ∀ {i : Nat} {u : O} {a : Addr}, v'.st[i]? = some u → u.live = true → v'.m i = some a → a ≠ p := fun {i u a} e lv em z => no ⟨i, u, a, e, lv, em, .inl z.symm⟩
  refine ⟨⟨l.g, l.m.trans gr, l.h, l.nw, fun b ⟨i, u, a, e, lv, em, q⟩ => ?_, l.al⟩, s.sub, fun i hi => ?_, fun i u e lv => ?_, fun i j u w a e1 e2 l1 l2 m1 m2 => ?_, fun i kvs e => ?_⟩
  · have em' : mset v'.m v'.st.length p i = some a := em
    rcases get e with ⟨z, e⟩ | ⟨rfl, rfl⟩
    · rw [mset_ne (Nat.ne_of_lt z)] at em'
      exact l.ow b ⟨i, u, a, e, lv, em', q⟩
    · rw [mset_same] at em'
      cases em'
      rcases q with rfl | ⟨C, fs, q⟩
      · exact .inr hp
      · have q' : v'.H p = some (.ins C b fs) := q
        rw [hu] at q'
        cases q'
  · have hl : v'.st.length + 1 ≤ i := by simpa [Vw.alloc] using hi
    show mset v'.m v'.st.length p i = none
    rw [mset_ne (by omega)]
    exact s.dom i (by omega)
  · rcases get e with ⟨z, e⟩ | ⟨rfl, rfl⟩
    · obtain ⟨a, em, ga, r⟩ := s.obj i u e lv
      exact ⟨a, (mset_ne (Nat.ne_of_lt z)).trans em, ga, r.mono' (v := v') (v' := v'.alloc p v'.H (.lst xs)) (Same.refl _) gr rfl fun C dx fs _ q1 q2 => ⟨rfl, q2⟩⟩
    · exact ⟨p, mset_same, gp, vs, hu, r.mono (Same.refl _) gr⟩
  · have m1' : mset v'.m v'.st.length p i = some a := m1
    have m2' : mset v'.m v'.st.length p j = some a := m2
    rcases get e1 with ⟨z1, f1⟩ | ⟨y1, f1⟩ <;> rcases get e2 with ⟨z2, f2⟩ | ⟨y2, f2⟩
    · rw [mset_ne (Nat.ne_of_lt z1)] at m1'
      rw [mset_ne (Nat.ne_of_lt z2)] at m2'
      exact s.inj i j u w a f1 f2 l1 l2 m1' m2'
    · rw [mset_ne (Nat.ne_of_lt z1)] at m1'
      rw [y2, mset_same] at m2'
      cases m2'
      exact absurd rfl (np f1 l1 m1')
    · rw [mset_ne (Nat.ne_of_lt z2)] at m2'
      rw [y1, mset_same] at m1'
      cases m1'
      exact absurd rfl (np f2 l2 m2')
    · rw [y1, y2]
  · rcases get e with ⟨_, f⟩ | ⟨_, f⟩
    · exact FkR.mono (v := v') (v' := v'.alloc p v'.H (.lst xs)) (Same.refl _) gr (s.fk i kvs f)
    · cases f
/-- what is none of the store's, and not frozen, may be changed aside -/
theorem side_ok {v : Vw} {p : Addr} {u : HO} (s : SR K ct v) (gp : v.G p = none) (no : ¬ v.owns p) : SR K ct ⟨v.G, upd v.H p u, v.m, v.st⟩ ∧ ∀ b, (Vw.mk v.G (upd v.H p u) v.m v.st).owns b → v.owns b := by
  have np : ∀ {i : Nat} {o : O} {a : Addr}, v.st[i]? = some o → o.live = true → v.m i = some a → a ≠ p := fun {i o a} e lv em z => no ⟨i, o, a, e, lv, em, .inl z.symm⟩
  refine ⟨⟨fun b w q => ?_, s.dom, fun i o e lv => ?_, s.inj, fun i kvs e => FkR.mono (v := v) (v' := ⟨v.G, upd v.H p u, v.m, v.st⟩) (Same.refl _) .refl (s.fk i kvs e)⟩, fun b q => owns_same (fun i o a e lv em C fs dx z => by rwa [upd_ne (np e lv em)] at z) q⟩
  · have q' : v.G b = some w := q
    have z : b ≠ p := fun z => by rw [z, gp] at q'; cases q'
    show upd v.H p u b = some w
    rw [upd_ne z]
    exact s.sub _ _ q'
  · obtain ⟨a, em, ga, r⟩ := s.obj i o e lv
    exact ⟨a, em, ga, r.mono' (v := v) (Same.refl _) .refl (upd_ne (np e lv em)) fun C dx fs q0 q1 q2 => ⟨upd_ne fun z => no ⟨i, o, a, e, lv, em, .inr ⟨C, fs, by rw [← z]; exact q0⟩⟩, q2⟩⟩
end
section
variable {X : Cx} {C : Cc} {pos : Pos} {e : Expr} {es : List Expr} {f : Fr} {r : As}
theorem lift_fz {K : PySem.W.Frag} {σ : L2.St} {H : Hp} {Q : VK} (h : liftE K C (eFz f) σ H Q) : liftF K C f σ H Q := by
  obtain ⟨δ, v, re, eH, h⟩ := h
  refine ⟨δ, v, re, eH, ?_⟩
  unfold eFz at h
  cases q : f δ v.st with
  | stk => rw [q] at h; exact h
  | exc e s => rw [q] at h; exact h
  | ok xs s =>
    rw [q] at h
    intro p vs v' l sr es hp gp hh no r
    obtain ⟨l2, s2⟩ := frz_new l sr hp gp hh no
    exact h (.ref p) ⟨upd v'.G p (.lst vs), v'.H, v'.m, v'.st⟩ l2 s2 es (.lst (SqL.of upd_same) (r.mono (same_new gp _) .refl))
theorem lift_nw {K : PySem.W.Frag} {σ : L2.St} {H : Hp} {Q : VK} (h : liftE K C (eNw f) σ H Q) : liftF K C f σ H Q := by
  obtain ⟨δ, v, re, eH, h⟩ := h
  refine ⟨δ, v, re, eH, ?_⟩
  unfold eNw at h
  cases q : f δ v.st with
  | stk => rw [q] at h; exact h
  | exc e s => rw [q] at h; exact h
  | ok xs s =>
    rw [q] at h
    intro p vs v' l sr es hp gp hh no r
    obtain ⟨l2, s2⟩ := adopt l sr hp gp hh no r
    subst es
    exact h (.ref p) (v'.alloc p v'.H (.lst xs)) l2 s2 rfl (.ob mset_same)
theorem SF.fz (h : SF X C e f) : SE X C e (eFz f) := pe_weak h fun σ H Q z => lift_fz z
theorem SF.nw (h : SF X C e f) : SE X C e (eNw f) := pe_weak h fun σ H Q z => lift_nw z
theorem onF_bind {α β : Type} {K : PySem.W.Frag} {σ : L2.St} {v : Vw} {rel : α → β → Vw → Prop} {r : R α} {k : α → Sto → R (List D)} {P : List D → Addr → Vw → Prop} (h : onF K C σ v (r.bind k) P) : on K C σ v rel r fun a _ v1 => onF K C σ v1 (k a v1.st) P := by
  cases r with
  | ok a s =>
    intro b v1 l sr e q
    subst e
    have h' : onF K C σ v (k a v1.st) P := h
    show onF K C σ v1 (k a v1.st) P
    cases e : k a v1.st with
    | ok xs s2 =>
      rw [e] at h'
      intro p vs v2 l2 sr2 es hp gp hh no rr
      exact h' p vs v2 (l.trans l2) sr2 es (l.al p hp) gp hh no rr
    | exc e2 s2 => rw [e] at h'; exact fun cls dd w l2 => h' cls dd w (l.trans l2)
    | stk => rw [e] at h'; exact h'
  | exc e s => exact h
  | stk => exact h
end
end Gs

/-! G7: new lists: displays, list(..), comprehensions. -/
namespace Gs
open PySem L2
section
variable {X : Cx} {C : Cc} {pos : Pos} {e : Expr} {es : List Expr} {f : Fr} {r : As}
theorem newH {K : PySem.W.Frag} {ct : String → Addr} {v : Vw} {p : Addr} {u : HO} (sr : SR K ct v) (hp : v.H p = none) : Le v ⟨v.G, upd v.H p u, v.m, v.st⟩ ∧ SR K ct ⟨v.G, upd v.H p u, v.m, v.st⟩ ∧ ¬ (Vw.mk v.G (upd v.H p u) v.m v.st).owns p := by
  obtain ⟨l, s⟩ := more_ok sr (same_new hp u)
  refine ⟨l, s, fun q => ?_⟩
  obtain ⟨i, o, a, e, lv, em, z⟩ := q
  obtain ⟨_, w, hw, _⟩ := sr.obj_ne e lv em
  have na : a ≠ p := ne_of_none hw hp
  rcases z with z | ⟨C, fs, z⟩
  · exact na z.symm
  · have z' : upd v.H p u a = some (.ins C p fs) := z
    rw [upd_ne na] at z'
    obtain ⟨h1, _⟩ := sr.dx e lv em z'
    rw [hp] at h1
    cases h1
def fLst (r : As) : Fr := fun δ s => (r δ s).bind fun xs s1 => if xs.length ≤ sizeLine then .ok xs s1 else .stk
theorem sf_lst (h : SA X C es r) : SF X C (.List es pos) (fLst r) := pe_weak (pe_lst h) fun σ H Q ⟨δ, v, re, eH, h⟩ =>
  ⟨δ, v, re, eH, on_mono (onF_bind h) fun ds vs v1 l1 s1 r1 h1 => by
    have hl := r1.length
    by_cases z : ds.length ≤ sizeLine
    · rw [if_pos z] at h1
      refine ⟨by omega, fun p hp => ?_⟩
      obtain ⟨l2, s2, no⟩ := newH (u := .lst vs) s1 hp
      exact h1 p vs ⟨v1.G, upd v1.H p (.lst vs), v1.m, v1.st⟩ l2 s2 rfl hp (s1.free hp) upd_same no r1
    · rw [if_neg z] at h1
      exact h1.elim⟩
/-- list(x) -/
def fList (f : E) : Fr := fun δ s => (f δ s).bind fun d s1 => match rsv s1 d with
  | .lst xs => .ok xs s1
  | .tup xs => .ok xs s1
  | .str x => if x.length ≤ sizeLine then .ok (signs x) s1 else .stk
  | _ => .stk
theorem sf_list (hc : X.calm = true) {x : Str} {p : Pos} {a : Expr} {fa : E} (hx : x = "list") (hg : Gl X x) (hm : X.mg x = none) (ha : SE X C a fa) (hv : bootBuiltins x = some (.type "list")) (hn : x ≠ "__name__" := by decide) (hdb : (x == ("__debug__" : Str)) = false := by decide)
    (he : starEach [a] X.env = (false, eval a X.env) :: starEach [] X.env := by rfl) (hpl : (backTo pos (starEach [] X.env)).any (·.1) = false := by rfl) : SF X C (.Call (.Name x p) [a] [] pos) (fList fa) :=
  ⟨fun pins s σ H Q I ⟨δ, v, re, eH, h⟩ => by
    have go : ∀ (v1 : Vw) (vs : List V) (ds : List D) (c : Addr), Le v v1 → SR X.K C.ct v1 → v1.H c = none → RepL X.K C.ct v1.G v1.m ds vs → onF X.K C σ v1 (.ok ds v1.st) (fun _ p v' => Q (.ref p) v'.H) → Q (.ref c) (upd v1.H c (.lst vs)) := fun v1 vs ds c _ s1 hc rr hh => by
      obtain ⟨l2, s2, no⟩ := newH (u := .lst vs) s1 hc
      exact hh c vs ⟨v1.G, upd v1.H c (.lst vs), v1.m, v1.st⟩ l2 s2 rfl hc (s1.free hc) upd_same no rr
    have hz := onF_bind (rel := rE X.K C.ct) h
    have P1 : PE X (.Call (.Name x p) [a] [] pos) _ := pe_callTy call_list_of hg hm hv (pa_cons ha pa_nil he) hn hdb he hpl
    have seqs : (on X.K C σ v (rE X.K C.ct) (fa δ v.st) fun _ x v' => ∃ p ys, x = .ref p ∧ (SqL X.K v'.H p ys ∨ SqT X.K v'.H p ys) ∧ ∀ l, v'.H l = none → Q (.ref l) (upd v'.H l (.lst ys))) → _ := fun z => P1.run pins s σ H Q I ⟨δ, v, re, eH, on_mono z fun _ x v' _ _ _ ⟨p, ys, e, w⟩ => ⟨p, ys, by rw [e], w⟩⟩
    cases q : fa δ v.st with
    | stk => rw [q] at hz; exact hz.elim
    | exc e s1 => exact seqs (by rw [q] at hz ⊢; exact hz)
    | ok d s1 =>
      rw [q] at hz
      cases z : rsv s1 d with
      | lst xs =>
        refine seqs ?_
        rw [q]
        intro x v1 l1 sr1 es r1
        have h1 := hz x v1 l1 sr1 es r1
        have t := r1.top sr1
        subst es
        simp only [z] at h1
        rw [z] at t
        cases t with
        | @lst a vs _ p q => exact ⟨a, vs, rfl, .inl p, fun c hc => go v1 _ _ c l1 sr1 hc q h1⟩
      | tup xs =>
        refine seqs ?_
        rw [q]
        intro x v1 l1 sr1 es r1
        have h1 := hz x v1 l1 sr1 es r1
        have t := r1.top sr1
        subst es
        simp only [z] at h1
        rw [z] at t
        cases t with
        | @tup a vs _ p q => exact ⟨a, vs, rfl, .inr (sqt_mono sr1.sub p), fun c hc => go v1 _ _ c l1 sr1 hc q h1⟩
      | str y =>
        refine (pe_callTy (call_list_text hc) hg hm hv (pa_cons ha pa_nil he) hn hdb he hpl).run pins s σ H Q I ⟨δ, v, re, eH, ?_⟩
        rw [q]
        intro x v1 l1 sr1 es r1
        have h1 := hz x v1 l1 sr1 es r1
        have t := r1.top sr1
        subst es
        simp only [z] at h1
        rw [z] at t
        cases t
        split at h1
        · rename_i hy
          exact ⟨y, rfl, hy, fun c hc => go v1 _ _ c l1 sr1 hc (RepL.signs y) h1⟩
        · exact h1.elim
      | _ =>
        refine seqs ?_
        rw [q]
        intro x v1 l1 sr1 es r1
        have h1 := hz x v1 l1 sr1 es r1
        subst es
        simp only [z] at h1
        exact h1.elim⟩
end
/-! ### comprehensions -/
def wipeD (δ : Sl) : List Nat → Sl
  | [] => δ
  | v :: vs => (wipeD δ vs).set v none
theorem RE.wipe {K : PySem.W.Frag} {C : Cc} {σ : L2.St} {δ : Sl} {v : Vw} (r : RE K C σ δ v) : ∀ vs : List Nat, RE K C (L2.wipe σ vs) (wipeD δ vs) v
  | [] => r
  | i :: vs => (RE.wipe r vs).setU i none
theorem RE.wish {K : PySem.W.Frag} {C : Cc} {σ : L2.St} {δ : Sl} {v : Vw} (r : RE K C σ δ v) (W : WX) : RE K { C with W := W } σ δ v := ⟨r.le, r.sr, r.len, r.sl⟩
theorem wipe_get (σ : L2.St) : ∀ (vs : List Nat) (j : Nat), (L2.wipe σ vs)[j]? = if j ∈ vs ∧ j < σ.length then some none else σ[j]?
  | [], j => by simp [L2.wipe]
  | v :: vs, j => by
    unfold L2.wipe
    by_cases e : v = j
    · subst e
      by_cases h : v < σ.length
      · rw [List.getElem?_set_self (by rw [wipe_length]; exact h), if_pos ⟨List.mem_cons_self .., h⟩]
      · rw [if_neg fun z => h z.2, List.getElem?_eq_none (by rw [List.length_set, wipe_length]; omega), List.getElem?_eq_none (by omega)]
    · rw [List.getElem?_set_ne e, wipe_get σ vs j]
      have : (j ∈ v :: vs) ↔ j ∈ vs := by simp [Ne.symm e]
      simp only [this]
theorem wipe_off {is vs : List Nat} {σ σ' : L2.St} (o : Off is (L2.wipe σ vs) σ') (h : ∀ i ∈ is, i ∈ vs) : L2.wipe σ' vs = L2.wipe σ vs := by
  have hl : σ'.length = σ.length := by rw [o.1, wipe_length]
  apply List.ext_getElem?
  intro j
  rw [wipe_get, wipe_get, hl]
  by_cases hj : j ∈ vs ∧ j < σ.length
  · rw [if_pos hj, if_pos hj]
  · rw [if_neg hj, if_neg hj]
    by_cases hj2 : j ∈ vs
    · have : ¬ j < σ.length := fun z => hj ⟨hj2, z⟩
      rw [List.getElem?_eq_none (by omega), List.getElem?_eq_none (by omega)]
    · rw [o.2 j fun z => hj2 (h j z), wipe_get, if_neg hj]
abbrev Cc.nox (C : Cc) : Cc := { C with W := fun _ _ _ _ => False }
/-- what the turns give -/
def lcD (p : Pt) (c : T) (e : E) (δ : Sl) : List D → Sto → R (List D)
  | [], s => .ok [] s
  | d :: ds, s => match bindP p d δ with
    | none => .stk
    | some δ1 => match c δ1 s with
      | .ok true s1 => (match e δ1 s1 with
        | .ok y s2 => (match lcD p c e δ ds s2 with
          | .ok r s3 => .ok (y :: r) s3
          | _ => .stk)
        | _ => .stk)
      | .ok false s1 => lcD p c e δ ds s1
      | _ => .stk
theorem lcD_exc {p : Pt} {c : T} {e : E} {δ : Sl} : ∀ (ds : List D) (s : Sto) (ex : Ex) (s' : Sto), lcD p c e δ ds s ≠ .exc ex s'
  | [], s, ex, s', z => nomatch z
  | d :: ds, s, ex, s', z => by
    simp only [lcD] at z
    split at z
    · exact nomatch z
    · split at z
      · split at z
        · split at z <;> exact nomatch z
        · exact nomatch z
      · exact lcD_exc ds _ _ _ z
      · exact nomatch z
def fLc (it : As) (vs : List Nat) (p : Pt) (c : T) (e : E) : Fr := fun δ s => (it δ s).bind fun items s1 => (lcD p c e (wipeD δ vs) items s1).bind fun xs s2 => if xs.length ≤ sizeLine then .ok xs s2 else .stk
def tTrue : T := fun _ s => .ok true s
section
variable {X : Cx} {C : Cc} {pos : Pos}
/-- a list that is being made at L stays aside -/
structure Aside (v : Vw) (L : Addr) (va : List V) : Prop where
  h : v.H L = some (.lst va)
  g : v.G L = none
  no : ¬ v.owns L
theorem Aside.step {v v' : Vw} {L : Addr} {va : List V} (a : Aside v L va) (l : Le v v') : Aside v' L va := by
  refine ⟨l.h _ _ a.h a.no, ?_, fun q => ?_⟩
  · cases z : v'.G L with
    | none => rfl
    | some o =>
      rcases l.nw L (by rw [z]; exact fun y => nomatch y) with y | y | y
      · exact absurd a.g y
      · rw [a.h] at y; cases y
      · exact absurd y a.no
  · rcases l.ow L q with y | y
    · exact a.no y
    · rw [a.h] at y; cases y
theorem lift_lc {K : PySem.W.Frag} {it : As} {vs : List Nat} {p : Pt} {c : T} {e : E} (hp : ∀ i ∈ idxP p, i ∈ vs) {σ : L2.St} {H : Hp} {Q : VK} (h : liftF K C (fLc it vs p c e) σ H Q) :
    tLc (liftI K C it) (liftG K C.nox p) (liftT K C.nox c) (liftE K C.nox e) vs σ H Q := by
  obtain ⟨δ, v, re, eH, h⟩ := h
  refine ⟨δ, v, re, eH, on_mono (onF_bind h) fun items J v1 l1 sr1 ok h1 => ?_⟩
  intro L hD
  have h2 : onF K C σ v1 ((lcD p c e (wipeD δ vs) items v1.st).bind fun xs s2 => if xs.length ≤ sizeLine then .ok xs s2 else .stk) fun _ p v' => Q (.ref p) v'.H := h1
  clear h1
  cases q1 : lcD p c e (wipeD δ vs) items v1.st with
  | stk => rw [q1] at h2; exact h2.elim
  | exc ex s' => exact absurd q1 (lcD_exc _ _ _ _)
  | ok xs s9 =>
    rw [q1] at h2
    have h3 : xs.length ≤ sizeLine ∧ ∀ (va : List V) (v2 : Vw), Le v1 v2 → SR K C.ct v2 → v2.st = s9 → Aside v2 L va → RepL K C.ct v2.G v2.m xs va → Q (.ref L) v2.H := by
      have h4 : onF K C σ v1 (if xs.length ≤ sizeLine then .ok xs s9 else .stk) fun _ p v' => Q (.ref p) v'.H := h2
      by_cases z : xs.length ≤ sizeLine
      · rw [if_pos z] at h4
        exact ⟨z, fun va v2 l2 s2 es a2 ra => h4 L va v2 l2 s2 es hD a2.g a2.h a2.no ra⟩
      · rw [if_neg z] at h4
        exact h4.elim
    obtain ⟨hz, fin⟩ := h3
    clear h2
    have start : ∃ v2, v2.H = upd v1.H L (.lst []) ∧ Le v1 v2 ∧ SR K C.ct v2 ∧ Aside v2 L [] ∧ v2.st = v1.st := by
      obtain ⟨l2, s2, no⟩ := newH (u := .lst []) sr1 hD
      exact ⟨⟨v1.G, upd v1.H L (.lst []), v1.m, v1.st⟩, rfl, l2, s2, ⟨upd_same, sr1.free hD, no⟩, rfl⟩
    refine ⟨fun i m H2 => m = items.length - i ∧ i ≤ items.length ∧ ∃ (v2 : Vw) (acc rest : List D) (va : List V), v2.H = H2 ∧ Le v1 v2 ∧ SR K C.ct v2 ∧ Aside v2 L va ∧ RepL K C.ct v2.G v2.m acc va ∧
      lcD p c e (wipeD δ vs) (items.drop i) v2.st = .ok rest s9 ∧ acc ++ rest = xs, ?_, ?_⟩
    · obtain ⟨v2, e2, l2, s2, a2, es⟩ := start
      exact ⟨items.length, by simp, Nat.zero_le _, v2, [], xs, [], e2, l2, s2, a2, .nil, by rw [es]; exact q1, rfl⟩
    rintro i m H2 ⟨rfl, hi, v2, acc, rest, va, rfl, l2, s2, a2, ra, el, ex⟩
    by_cases hlt : i < items.length
    · refine .inr ⟨ok.go i v2 l2 s2 hlt, fun H3 => ∃ (v2 : Vw) (acc rest : List D) (va : List V), v2.H = H3 ∧ Le v1 v2 ∧ SR K C.ct v2 ∧ Aside v2 L va ∧ RepL K C.ct v2.G v2.m acc va ∧
        lcD p c e (wipeD δ vs) (items.drop (i + 1)) v2.st = .ok rest s9 ∧ acc ++ rest = xs, fun H' n => ⟨items.length - (i + 1), by omega, rfl, hlt, n⟩, fun x H' y => ?_⟩
      obtain ⟨d, v3, ed, rfl, l3, s3, e3, r3⟩ := ok.yld i v2 x H' l2 s2 hlt y
      have ed2 : items.drop i = d :: items.drop (i + 1) := by
        rw [List.drop_eq_getElem_cons hlt]
        rw [List.getElem?_eq_getElem hlt] at ed
        rw [Option.some.inj ed]
      rw [ed2] at el
      simp only [lcD] at el
      cases eb : bindP p d (wipeD δ vs) with
      | none => rw [eb] at el; exact nomatch el
      | some δ1 =>
        rw [eb] at el
        simp only at el
        have re3 := (((re.step l1 sr1).step l2 s2).step l3 s3)
        refine ⟨d, wipeD δ vs, v3, δ1, (re3.wipe vs).wish _, rfl, r3, eb, fun σ4 re4 o4 => ⟨wipe_off o4 hp, δ1, v3, re4, rfl, ?_⟩⟩
        rw [e3]
        cases ec : c δ1 v2.st with
        | stk => rw [ec] at el; exact nomatch el
        | exc _ _ => rw [ec] at el; exact nomatch el
        | ok b s4 =>
          rw [ec] at el
          intro b2 v4 l4 s4' es4 eb2
          cases eb2
          cases b with
          | true =>
            rw [if_pos rfl]
            simp only at el
            refine ⟨δ1, v4, re4.step l4 s4', rfl, ?_⟩
            rw [es4]
            cases ee : e δ1 s4 with
            | stk => rw [ee] at el; exact nomatch el
            | exc _ _ => rw [ee] at el; exact nomatch el
            | ok y0 s5 =>
              rw [ee] at el
              intro y5 v5 l5 s5' es5 r5
              simp only at el
              cases er : lcD p c e (wipeD δ vs) (items.drop (i + 1)) s5 with
              | stk => rw [er] at el; exact nomatch el
              | exc _ _ => rw [er] at el; exact nomatch el
              | ok rest2 s6 =>
                rw [er] at el
                simp only [R.ok.injEq] at el
                obtain ⟨el, es6⟩ := el
                subst el
                subst es6
                have l25 := (l3.trans l4).trans l5
                have a5 := a2.step l25
                have hl := ra.length
                have hl2 : acc.length + (rest2.length + 1) = xs.length := by rw [← ex]; simp
                obtain ⟨s7, ow7⟩ := side_ok (u := .lst (va ++ [y5])) s5' a5.g a5.no
                refine ⟨va, a5.h, by omega, ⟨v5.G, upd v5.H L (.lst (va ++ [y5])), v5.m, v5.st⟩, acc ++ [y0], rest2, va ++ [y5], rfl, ?_, s7, ⟨upd_same, a5.g, fun q => a5.no (ow7 _ q)⟩, (l25.repl ra).append (RepL.one r5), ?_, by rw [List.append_assoc]; exact ex⟩
                · have l15 := l2.trans l25
                  exact ⟨l15.g, l15.m, fun b o hb nb => by
                    show upd v5.H L _ b = some o
                    rw [upd_ne (ne_of_none hb hD)]
                    exact l15.h b o hb nb, l15.nw, fun b q => l15.ow b (ow7 b q), fun b q => by
                    have q' : upd v5.H L (.lst (va ++ [y5])) b = none := q
                    by_cases z : b = L
                    · rw [z, upd_same] at q'; cases q'
                    · rw [upd_ne z] at q'
                      exact l15.al b q'⟩
                · show lcD p c e (wipeD δ vs) (items.drop (i + 1)) v5.st = .ok rest2 s6
                  rw [es5]
                  exact er
          | false =>
            rw [if_neg Bool.false_ne_true]
            simp only at el
            have l24 := l3.trans l4
            exact ⟨v4, acc, rest, va, rfl, l2.trans l24, s4', a2.step l24, l24.repl ra, by rw [es4]; exact el, ex⟩
    · have ei : i = items.length := by omega
      subst ei
      rw [List.drop_length] at el
      simp only [lcD, R.ok.injEq] at el
      obtain ⟨el, es⟩ := el
      subst el
      rw [List.append_nil] at ex
      subst ex
      exact .inl ⟨ok.stop _ v2 l2 s2 (Nat.le_refl _), fin va v2 l2 s2 es a2 ra⟩
abbrev STs (X : Cx) (C : Cc) (ifs : List Expr) (t : T) : Prop := PTs X ifs (liftT X.K C t)
theorem sts_nil : STs X C [] tTrue := ⟨fun pins s σ H Q I ⟨δ, v, re, eH, h⟩ => by
  subst eH
  exact pts_nil.run pins s σ _ Q I (h true v .refl re.sr rfl rfl)⟩
theorem sts_one {c : Expr} {t : T} (h : ST X C c t) : STs X C [c] t := pts_one h
variable {elt tg iter : Expr} {ifs : List Expr} {scope : Scope} {it : As} {p : Pt} {c : T} {e : E}
theorem sf_lc (own : List (Str × Nat)) (hc : X.calm = true) (hN : X.N.Nodup) (hi : SI X C tg iter it) (ok : BlkOk X.N X.env.scope scope own) (hp : ∀ i ∈ idxP p, i ∈ own.map (·.2))
    (hg : ∀ (s : Shared) (H : Hp) (c0 : Addr) (cl : List (Str × Addr)) (fp : List Addr), SG (X.blk s H scope (compEnvC scope cl c0 X.env) fp) C.nox tg p)
    (ht : ∀ (s : Shared) (H : Hp) (c0 : Addr) (cl : List (Str × Addr)) (fp : List Addr), STs (X.blk s H scope (compEnvC scope cl c0 X.env) fp) C.nox ifs c)
    (he : ∀ (s : Shared) (H : Hp) (c0 : Addr) (cl : List (Str × Addr)) (fp : List Addr), SE (X.blk s H scope (compEnvC scope cl c0 X.env) fp) C.nox elt e) (hs : ∀ x, foldedSetIterable iter X.env x = pure x := by intro _; rfl) :
    SF X C (.ListComp elt [⟨tg, iter, ifs, 0⟩] scope pos) (fLc it (own.map (·.2)) p c e) :=
  pe_weak (pe_lc hc hN hi ok hg ht he hs) fun σ H Q h => lift_lc hp h
/-- y = [..] -/
theorem lift_setLc {K : PySem.W.Frag} {f : Fr} {g : Fr → E} {i : Nat} {Dn : Ends} {σ : L2.St} {H : Hp} {tlc : TE} (w : ∀ σ H Q, liftE K C (g f) σ H Q → tlc σ H Q) (h : liftS K C (sSet i (g f)) Dn σ H) : tAsg tlc (gName i) Dn σ H := by
  refine w _ _ _ ?_
  obtain ⟨δ, v, re, eH, h⟩ := h
  exact ⟨δ, v, re, eH, on_mono (onS_R re h) fun d x v1 l1 s1 r1 h1 => h1 (σ.set i (some x)) v1 ((re.step l1 s1).setV i r1) .refl rfl⟩
theorem ss_setLc (i : Nat) {g : Fr → E} {y : Str} {py spos : Pos} (own : List (Str × Nat)) (hgz : ∀ σ H Q, liftE X.K C (g (fLc it (own.map (·.2)) p c e)) σ H Q → liftF X.K C (fLc it (own.map (·.2)) p c e) σ H Q) (hc : X.calm = true) (hN : X.N.Nodup) (hy : X.N[i]? = some y) (hyl : X.env.scope.names.lookup y = some .local)
    (hsw : swapsWith (.ListComp elt [⟨tg, iter, ifs, 0⟩] scope pos) (some (.Name y py)) spos.line X.env = pure true) (hi : SI X C tg iter it) (ok : BlkOk X.N X.env.scope scope own) (hp : ∀ i ∈ idxP p, i ∈ own.map (·.2))
    (hg : ∀ (s : Shared) (H : Hp) (c0 : Addr) (cl : List (Str × Addr)) (fp : List Addr), SG (X.blk s H scope (compEnvC scope cl c0 X.env) fp) C.nox tg p)
    (ht : ∀ (s : Shared) (H : Hp) (c0 : Addr) (cl : List (Str × Addr)) (fp : List Addr), STs (X.blk s H scope (compEnvC scope cl c0 X.env) fp) C.nox ifs c)
    (he : ∀ (s : Shared) (H : Hp) (c0 : Addr) (cl : List (Str × Addr)) (fp : List Addr), SE (X.blk s H scope (compEnvC scope cl c0 X.env) fp) C.nox elt e) (hs : ∀ x, foldedSetIterable iter X.env x = pure x := by intro _; rfl) :
    SS X C (.Assign [.Name y py] (.ListComp elt [⟨tg, iter, ifs, 0⟩] scope pos) spos) (sSet i (g (fLc it (own.map (·.2)) p c e))) :=
  ps_weak (ps_setLc hc hN hy hyl hsw hi ok hg ht he hs) fun Dn σ H h => lift_setLc (g := g) (fun _ _ _ z => lift_lc hp (hgz _ _ _ z)) h
end
end Gs

/-! G8: in, is of truths; lists of the store; walks. -/
namespace Gs
open PySem L2
def gIn : B2
  | .str x, .str z => match x.cps.toList with
    | [c] => some (.bl (decide (c ∈ z.cps.toList)))
    | _ => none
  | .str x, .tup ds => (strsOf ds).map fun zs => .bl (decide (x ∈ zs))
  | .str x, .lst ds => (strsOf ds).map fun zs => .bl (decide (x ∈ zs))
  | .int x, .tup ds => (intsOf ds).map fun zs => .bl (decide (x ∈ zs))
  | .int x, .lst ds => (intsOf ds).map fun zs => .bl (decide (x ∈ zs))
  | _, _ => none
def gNin : B2 := fun x y => match gIn x y with
  | some (.bl b) => some (.bl !b)
  | _ => none
theorem inV_strs (x : Str) : ∀ zs : List Str, inV (.str x) (zs.map V.str) = decide (x ∈ zs)
  | [] => by simp [inV]
  | z :: zs => by
    have ih := inV_strs x zs
    unfold inV at ih ⊢
    rw [List.map_cons, List.any_cons, ih]
    have e : eqV (.str z) (.str x) = (z == x) := rfl
    rw [e]
    by_cases h : z = x
    · simp [h]
    · have h' : ¬ x = z := fun q => h q.symm
      simp [h, h']
theorem flat_strs : ∀ zs : List Str, (zs.map V.str).all flatV = true
  | [] => rfl
  | z :: zs => by
    rw [List.map_cons, List.all_cons, flat_strs zs]
    rfl
theorem inV_ints (x : Int) : ∀ zs : List Int, inV (.int x) (zs.map V.int) = decide (x ∈ zs)
  | [] => by simp [inV]
  | z :: zs => by
    have ih := inV_ints x zs
    unfold inV at ih ⊢
    rw [List.map_cons, List.any_cons, ih]
    have e : eqV (.int z) (.int x) = (z == x) := rfl
    rw [e]
    by_cases h : z = x
    · simp [h]
    · have h' : ¬ x = z := fun q => h q.symm
      simp [h, h']
theorem flat_ints : ∀ zs : List Int, (zs.map V.int).all flatV = true
  | [] => rfl
  | z :: zs => by
    rw [List.map_cons, List.all_cons, flat_ints zs]
    rfl
theorem one_sign {x : Str} {c : Nat} (h : x.cps.toList = [c]) : x = ⟨#[c]⟩ := by
  cases x with
  | mk a =>
    congr 1
    exact Array.toList_inj.mp h
section
variable {X : Cx}
theorem o_in {ct : String → Addr} : OpR X (compareOp .In) (rD X.K ct gIn) := by
  intro pins s σ H x y v u Q I rx ry h
  obtain ⟨v0, dx, dy, d, rfl, sr, e, r1, r2, h⟩ := h
  cases r1 <;> cases r2 <;> simp only [gIn, reduceCtorEq] at e
  · rename_i x a vs ds p q
    cases hz : intsOf ds with
    | none => rw [hz] at e; exact nomatch e
    | some zs =>
      rw [hz] at e
      simp only [Option.map_some, Option.some.injEq] at e
      subst e
      have hd := intsOf_eq hz
      subst hd
      have hv := RepL.of_ints q
      subst hv
      refine op_in_seq pins s σ _ _ _ v u Q I rx ry ⟨a, _, rfl, .inr (sqt_mono sr.sub p), rfl, flat_ints zs, ?_⟩
      rw [inV_ints]
      exact h _ v0 .refl sr rfl (.bl _)
  · rename_i x a vs ds p q
    cases hz : intsOf ds with
    | none => rw [hz] at e; exact nomatch e
    | some zs =>
      rw [hz] at e
      simp only [Option.map_some, Option.some.injEq] at e
      subst e
      have hd := intsOf_eq hz
      subst hd
      have hv := RepL.of_ints q
      subst hv
      refine op_in_seq pins s σ _ _ _ v u Q I rx ry ⟨a, _, rfl, .inl p, rfl, flat_ints zs, ?_⟩
      rw [inV_ints]
      exact h _ v0 .refl sr rfl (.bl _)
  · rename_i x z
    split at e
    · rename_i c hc
      simp only [Option.some.injEq] at e
      subst e
      exact op_in_sign pins s σ _ _ _ v u Q I rx ry ⟨c, z, by rw [one_sign hc], rfl, h _ v0 .refl sr rfl (.bl _)⟩
    · exact nomatch e
  · rename_i x a vs ds p q
    cases hz : strsOf ds with
    | none => rw [hz] at e; exact nomatch e
    | some zs =>
      rw [hz] at e
      simp only [Option.map_some, Option.some.injEq] at e
      subst e
      have hd := strsOf_eq hz
      subst hd
      have hv := RepL.of_strs q
      subst hv
      refine op_in_seq pins s σ _ _ _ v u Q I rx ry ⟨a, _, rfl, .inr (sqt_mono sr.sub p), rfl, flat_strs zs, ?_⟩
      rw [inV_strs]
      exact h _ v0 .refl sr rfl (.bl _)
  · rename_i x a vs ds p q
    cases hz : strsOf ds with
    | none => rw [hz] at e; exact nomatch e
    | some zs =>
      rw [hz] at e
      simp only [Option.map_some, Option.some.injEq] at e
      subst e
      have hd := strsOf_eq hz
      subst hd
      have hv := RepL.of_strs q
      subst hv
      refine op_in_seq pins s σ _ _ _ v u Q I rx ry ⟨a, _, rfl, .inl p, rfl, flat_strs zs, ?_⟩
      rw [inV_strs]
      exact h _ v0 .refl sr rfl (.bl _)
theorem o_nin {ct : String → Addr} : OpR X (compareOp .NotIn) (rD X.K ct gNin) := by
  intro pins s σ H x y v u Q I rx ry h
  obtain ⟨v0, dx, dy, d, rfl, sr, e, r1, r2, h⟩ := h
  unfold gNin at e
  cases r1 <;> cases r2 <;> simp only [gIn, reduceCtorEq] at e
  · rename_i x a vs ds p q
    cases hz : intsOf ds with
    | none => rw [hz] at e; exact nomatch e
    | some zs =>
      rw [hz] at e
      simp only [Option.map_some, Option.some.injEq] at e
      subst e
      have hd := intsOf_eq hz
      subst hd
      have hv := RepL.of_ints q
      subst hv
      refine op_notIn_seq pins s σ _ _ _ v u Q I rx ry ⟨a, _, rfl, .inr (sqt_mono sr.sub p), rfl, flat_ints zs, ?_⟩
      rw [inV_ints]
      exact h _ v0 .refl sr rfl (.bl _)
  · rename_i x a vs ds p q
    cases hz : intsOf ds with
    | none => rw [hz] at e; exact nomatch e
    | some zs =>
      rw [hz] at e
      simp only [Option.map_some, Option.some.injEq] at e
      subst e
      have hd := intsOf_eq hz
      subst hd
      have hv := RepL.of_ints q
      subst hv
      refine op_notIn_seq pins s σ _ _ _ v u Q I rx ry ⟨a, _, rfl, .inl p, rfl, flat_ints zs, ?_⟩
      rw [inV_ints]
      exact h _ v0 .refl sr rfl (.bl _)
  · rename_i x z
    split at e
    · rename_i b hb
      simp only [Option.some.injEq] at e
      subst e
      split at hb
      · rename_i c hc
        simp only [Option.some.injEq, D.bl.injEq] at hb
        subst hb
        exact op_notIn_sign pins s σ _ _ _ v u Q I rx ry ⟨c, z, by rw [one_sign hc], rfl, h _ v0 .refl sr rfl (.bl _)⟩
      · exact nomatch hb
    · exact nomatch e
  · rename_i x a vs ds p q
    cases hz : strsOf ds with
    | none => rw [hz] at e; exact nomatch e
    | some zs =>
      rw [hz] at e
      simp only [Option.map_some, Option.some.injEq] at e
      subst e
      have hd := strsOf_eq hz
      subst hd
      have hv := RepL.of_strs q
      subst hv
      refine op_notIn_seq pins s σ _ _ _ v u Q I rx ry ⟨a, _, rfl, .inr (sqt_mono sr.sub p), rfl, flat_strs zs, ?_⟩
      rw [inV_strs]
      exact h _ v0 .refl sr rfl (.bl _)
  · rename_i x a vs ds p q
    cases hz : strsOf ds with
    | none => rw [hz] at e; exact nomatch e
    | some zs =>
      rw [hz] at e
      simp only [Option.map_some, Option.some.injEq] at e
      subst e
      have hd := strsOf_eq hz
      subst hd
      have hv := RepL.of_strs q
      subst hv
      refine op_notIn_seq pins s σ _ _ _ v u Q I rx ry ⟨a, _, rfl, .inl p, rfl, flat_strs zs, ?_⟩
      rw [inV_strs]
      exact h _ v0 .refl sr rfl (.bl _)
def gIsB : B2
  | .bl a, .bl b => some (.bl (decide (a = b)))
  | .int _, .bl _ => some (.bl false)
  | _, _ => none
def gNotB : B2
  | .bl a, .bl b => some (.bl (!decide (a = b)))
  | _, _ => none
theorem op_isIB : OpR X (compareOp .Is) (fun x y H Q => ∃ i b, x = .int i ∧ y = .bl b ∧ Q (.bl false) H) := by
  intro pins s σ H x y v u Q I rx ry h
  obtain ⟨i, b, rfl, rfl, q⟩ := h
  obtain ⟨t, rfl⟩ := rx
  cases (show u = Value.bool b from ry)
  exact wpAny_is_other rfl (fun z => nomatch z) ⟨.bl false, H, I, rfl, q⟩
theorem o_isB {ct : String → Addr} : OpR X (compareOp .Is) (rD X.K ct gIsB) := by
  intro pins s σ H x y v u Q I rx ry h
  obtain ⟨v0, dx, dy, d, rfl, sr, e, r1, r2, h⟩ := h
  unfold gIsB at e
  split at e
  case h_3 => exact nomatch e
  case h_2 =>
    cases r1
    cases r2
    simp only [Option.some.injEq] at e
    subst e
    exact op_isIB pins s σ _ _ _ v u Q I rx ry ⟨_, _, rfl, rfl, h _ v0 .refl sr rfl (.bl _)⟩
  cases r1
  cases r2
  simp only [Option.some.injEq] at e
  subst e
  exact op_isBl pins s σ _ _ _ v u Q I rx ry ⟨_, _, rfl, rfl, h _ v0 .refl sr rfl (.bl _)⟩
theorem o_notB {ct : String → Addr} : OpR X (compareOp .IsNot) (rD X.K ct gNotB) := by
  intro pins s σ H x y v u Q I rx ry h
  obtain ⟨v0, dx, dy, d, rfl, sr, e, r1, r2, h⟩ := h
  unfold gNotB at e
  split at e
  case h_2 => exact nomatch e
  cases r1
  cases r2
  simp only [Option.some.injEq] at e
  subst e
  exact op_notBl pins s σ _ _ _ v u Q I rx ry ⟨_, _, rfl, rfl, h _ v0 .refl sr rfl (.bl _)⟩
end
/-! ### lists of the store -/
/-- the things of a list of the store -/
def lsO (s : Sto) : D → Option (List D)
  | .ob i => match s[i]? with
    | some (.lst xs) => some xs
    | _ => none
  | _ => none
def stO (s : Sto) (d : D) (xs : List D) : Sto := match d with
  | .ob i => s.set i (.lst xs)
  | _ => s
theorem lsO_at {K : PySem.W.Frag} {ct : String → Addr} {v : Vw} {d : D} {x : V} {xs : List D} (sr : SR K ct v) (r : Rep K ct v.G v.m d x) (e : lsO v.st d = some xs) :
    ∃ i a vs, d = .ob i ∧ x = .ref a ∧ v.m i = some a ∧ v.st[i]? = some (.lst xs) ∧ v.H a = some (.lst vs) ∧ RepL K ct v.G v.m xs vs := by
  unfold lsO at e
  split at e
  · rename_i i
    split at e
    · rename_i ys q
      simp only [Option.some.injEq] at e
      subst e
      cases r with
      | ob em =>
        obtain ⟨a', em', _, vs, h, r2⟩ := sr.obj i _ q rfl
        rw [em] at em'
        cases em'
        exact ⟨i, _, vs, rfl, rfl, em, q, h, r2⟩
    · exact nomatch e
  · exact nomatch e
theorem stO_ok {K : PySem.W.Frag} {ct : String → Addr} {v : Vw} {i : Nat} {a : Addr} {xs ys : List D} {us : List V} (sr : SR K ct v) (em : v.m i = some a) (q : v.st[i]? = some (.lst xs)) (r : RepL K ct v.G v.m ys us) :
    Le v (v.put i a (.lst us) (.lst ys)) ∧ SR K ct (v.put i a (.lst us) (.lst ys)) :=
  put_ok sr q rfl em (fun C b fs z => nomatch z) ⟨us, upd_same, r⟩
section
variable {X : Cx} {C : Cc} {pos : Pos} {o a b e : Expr} {fo fa fb fe : E}
/-- o.append(a) -/
def eApp (o a : E) : E := fun δ s => (o δ s).bind fun x s1 => if (lsO s1 x).isSome = true then ((a δ s1).bind fun y s2 => match lsO s2 x with
  | some xs => if xs.length < sizeLine then .ok .non (stO s2 x (xs ++ [y])) else .stk
  | none => .stk) else .stk
theorem isSome_of {α : Type} {o : Option α} (h : o.isSome = true) : ∃ a, o = some a := Option.isSome_iff_exists.mp h
theorem se_app {p2 p3 : Pos} (ho : SE X C o fo) (ha : SE X C a fa) (hbase : attributeBase o "append" X.env (eval o X.env) = eval o X.env := by rfl)
    (hfew : ((backTo p3 (starEach [a] X.env)).all (fun x => !x.1) && (backToKw p3 (keywordEach [] X.env)).all (fun x => x.1.isSome)
      && decide ([a].length + ([] : List Keyword).length + (if ([] : List Keyword).isEmpty then 0 else 1) < 30)) = true := by rfl)
    (hline : (p2.endLine == p3.line) = true := by rfl) (hst : starEach [a] X.env = (false, eval a X.env) :: starEach [] X.env := by rfl) (hpl : (backTo p3 (starEach [] X.env)).any (·.1) = false := by rfl) :
    SE X C (.Call (.Attribute o "append" p2) [a] [] p3) (eApp fo fa) :=
  pe_weak (pe_bm PySem.F.plainAttrs_list PySem.F.slot_list_append PySem.F.type_list_append mt_append ho (pa_cons ha pa_nil hst) hbase hfew hline hst hpl) fun σ H Q ⟨δ, v, re, eH, h⟩ => by
    refine ⟨δ, v, re, eH, on_mono (on_bind h) fun d x v1 l1 s1 r1 h1 => ?_⟩
    split at h1
    · rename_i hs
      obtain ⟨xs0, e0⟩ := isSome_of hs
      obtain ⟨i, p, vs0, rfl, rfl, em, q0, hh0, _⟩ := lsO_at s1 r1 e0
      refine ⟨.inl ⟨rfl, vs0, SqL.of hh0⟩, δ, v1, re.step l1 s1, rfl, on_mono (on_bind h1) fun y u v2 l2 s2 r2 h2 => ?_⟩
      cases e1 : lsO v2.st (.ob i) with
      | none => rw [e1] at h2; exact h2.elim
      | some xs =>
        rw [e1] at h2
        obtain ⟨i', p', vs, ei, ep, em', q1, hh, r0⟩ := lsO_at s2 (l2.rep r1) e1
        cases ei
        cases ep
        simp only at h2
        split at h2
        · rename_i hz
          have hl := r0.length
          obtain ⟨l3, s3⟩ := stO_ok s2 em' q1 (r0.append (RepL.one r2))
          exact ⟨p, vs, u, rfl, rfl, hh, by omega, h2 .non (v2.put i p (.lst (vs ++ [u])) (.lst (xs ++ [y]))) l3 s3 rfl .non⟩
        · exact h2.elim
    · exact h1.elim
/-- o.pop(a) -/
def ePopAt (o a : E) : E := fun δ s => (o δ s).bind fun x s1 => if (lsO s1 x).isSome = true then ((a δ s1).bind fun y s2 => match lsO s2 x, y with
  | some xs, .int k => if -(2 ^ 63) ≤ k ∧ k < 2 ^ 63 then (match seqIndex? k xs.length with
    | some j => (match xs[j]? with
      | some d => .ok d (stO s2 x (xs.eraseIdx j))
      | none => .stk)
    | none => .stk) else .stk
  | _, _ => .stk) else .stk
theorem se_popAt {p2 p3 : Pos} (ho : SE X C o fo) (ha : SE X C a fa) (hbase : attributeBase o "pop" X.env (eval o X.env) = eval o X.env := by rfl)
    (hfew : ((backTo p3 (starEach [a] X.env)).all (fun x => !x.1) && (backToKw p3 (keywordEach [] X.env)).all (fun x => x.1.isSome)
      && decide ([a].length + ([] : List Keyword).length + (if ([] : List Keyword).isEmpty then 0 else 1) < 30)) = true := by rfl)
    (hline : (p2.endLine == p3.line) = true := by rfl) (hst : starEach [a] X.env = (false, eval a X.env) :: starEach [] X.env := by rfl) (hpl : (backTo p3 (starEach [] X.env)).any (·.1) = false := by rfl) :
    SE X C (.Call (.Attribute o "pop" p2) [a] [] p3) (ePopAt fo fa) :=
  pe_weak (pe_bm PySem.F.plainAttrs_list PySem.F.slot_list_pop PySem.F.type_list_pop mt_popAt ho (pa_cons ha pa_nil hst) hbase hfew hline hst hpl) fun σ H Q ⟨δ, v, re, eH, h⟩ => by
    refine ⟨δ, v, re, eH, on_mono (on_bind h) fun d x v1 l1 s1 r1 h1 => ?_⟩
    split at h1
    · rename_i hs
      obtain ⟨xs0, e0⟩ := isSome_of hs
      obtain ⟨i, p, vs0, rfl, rfl, em, q0, hh0, _⟩ := lsO_at s1 r1 e0
      refine ⟨.inl ⟨rfl, vs0, SqL.of hh0⟩, δ, v1, re.step l1 s1, rfl, on_mono (on_bind h1) fun y u v2 l2 s2 r2 h2 => ?_⟩
      cases e1 : lsO v2.st (.ob i) with
      | none => rw [e1] at h2; exact h2.elim
      | some xs =>
        rw [e1] at h2
        obtain ⟨i', p', vs, ei, ep, em', q1, hh, r0⟩ := lsO_at s2 (l2.rep r1) e1
        cases ei
        cases ep
        have hl := r0.length
        cases r2 with
        | int k =>
          simp only at h2
          split at h2
          · rename_i hk
            cases ej : seqIndex? k xs.length with
            | none => rw [ej] at h2; exact h2.elim
            | some j =>
              rw [ej] at h2
              simp only at h2
              cases ed : xs[j]? with
              | none => rw [ed] at h2; exact h2.elim
              | some d =>
                rw [ed] at h2
                obtain ⟨w, ew, rw2⟩ := r0.get ed
                obtain ⟨l3, s3⟩ := stO_ok s2 em' q1 (r0.erase j)
                exact ⟨p, vs, k, j, w, rfl, rfl, hh, hk.1, hk.2, by rw [← hl]; exact ej, ew, h2 w (v2.put i p (.lst (vs.eraseIdx j)) (.lst (xs.eraseIdx j))) l3 s3 rfl rw2⟩
          · exact h2.elim
        | _ => exact h2.elim
    · exact h1.elim
/-- o.extend(a), a another list -/
def eExt (o a : E) : E := fun δ s => (o δ s).bind fun x s1 => if (lsO s1 x).isSome = true then ((a δ s1).bind fun y s2 => match lsO s2 x, rsv s2 y with
  | some xs, .lst ys => (match y with
    | .ob _ => if xs.length + ys.length ≤ sizeLine then .ok .non (stO s2 x (xs ++ ys)) else .stk
    | _ => .stk)
  | _, _ => .stk) else .stk
theorem se_ext {p2 p3 : Pos} (ho : SE X C o fo) (ha : SE X C a fa) (hbase : attributeBase o "extend" X.env (eval o X.env) = eval o X.env := by rfl)
    (hfew : ((backTo p3 (starEach [a] X.env)).all (fun x => !x.1) && (backToKw p3 (keywordEach [] X.env)).all (fun x => x.1.isSome)
      && decide ([a].length + ([] : List Keyword).length + (if ([] : List Keyword).isEmpty then 0 else 1) < 30)) = true := by rfl)
    (hline : (p2.endLine == p3.line) = true := by rfl) (hst : starEach [a] X.env = (false, eval a X.env) :: starEach [] X.env := by rfl) (hpl : (backTo p3 (starEach [] X.env)).any (·.1) = false := by rfl) :
    SE X C (.Call (.Attribute o "extend" p2) [a] [] p3) (eExt fo fa) :=
  pe_weak (pe_bm PySem.F.plainAttrs_list PySem.F.slot_list_extend PySem.F.type_list_extend mt_extend ho (pa_cons ha pa_nil hst) hbase hfew hline hst hpl) fun σ H Q ⟨δ, v, re, eH, h⟩ => by
    refine ⟨δ, v, re, eH, on_mono (on_bind h) fun d x v1 l1 s1 r1 h1 => ?_⟩
    split at h1
    · rename_i hs
      obtain ⟨xs0, e0⟩ := isSome_of hs
      obtain ⟨i, p, vs0, rfl, rfl, em, q0, hh0, _⟩ := lsO_at s1 r1 e0
      refine ⟨.inl ⟨rfl, vs0, SqL.of hh0⟩, δ, v1, re.step l1 s1, rfl, on_mono (on_bind h1) fun y u v2 l2 s2 r2 h2 => ?_⟩
      cases e1 : lsO v2.st (.ob i) with
      | none => rw [e1] at h2; exact h2.elim
      | some xs =>
        rw [e1] at h2
        obtain ⟨i', p', vs, ei, ep, em', q1, hh, r0⟩ := lsO_at s2 (l2.rep r1) e1
        cases ei
        cases ep
        have hl := r0.length
        split at h2
        · rename_i zs ys ez ey
          cases ez
          split at h2
          · rename_i j
            split at h2
            · rename_i hz
              have eL : lsO v2.st (.ob j) = some ys := by
                unfold rsv at ey
                unfold lsO
                dsimp only at ey ⊢
                split at ey
                · rename_i q5; cases ey; rw [q5]
                · cases ey
                · cases ey
              obtain ⟨j', b, us, ej, eu, emj, qj, hb, rb⟩ := lsO_at s2 r2 eL
              cases ej
              cases eu
              have hl2 := rb.length
              obtain ⟨l3, s3⟩ := stO_ok s2 em' q1 (r0.append rb)
              exact ⟨p, b, vs, us, rfl, rfl, hh, hb, by omega, h2 .non (v2.put i p (.lst (vs ++ us)) (.lst (xs ++ ys))) l3 s3 rfl .non⟩
            · exact h2.elim
          · exact h2.elim
        · exact h2.elim
    · exact h1.elim
/-- a list of the store from here on frozen -/
def frzD (s : Sto) (d : D) : D × Sto := match d with
  | .ob i => (match s[i]? with
    | some (.lst xs) => (.lst xs, s.set i .gone)
    | _ => (d, s))
  | _ => (d, s)
theorem frzD_ok {K : PySem.W.Frag} {ct : String → Addr} {v : Vw} {d : D} {x : V} (sr : SR K ct v) (r : Rep K ct v.G v.m d x) : ∃ v', Le v v' ∧ SR K ct v' ∧ v'.H = v.H ∧ v'.st = (frzD v.st d).2 ∧ Rep K ct v'.G v'.m (frzD v.st d).1 x := by
  unfold frzD
  split
  · rename_i i
    split
    · rename_i xs q
      cases r with
      | @ob _ _ _ a em =>
        obtain ⟨a', em', _, vs, h, r2⟩ := sr.obj i _ q rfl
        rw [em] at em'
        cases em'
        obtain ⟨l, s⟩ := frz_ok sr q rfl em h
        exact ⟨v.frz i a (.lst vs), l, s, rfl, rfl, .lst (SqL.of upd_same) (l.repl r2)⟩
    · exact ⟨v, .refl, sr, rfl, rfl, r⟩
  · exact ⟨v, .refl, sr, rfl, rfl, r⟩
def eFrz (f : E) : E := fun δ s => (f δ s).bind fun d s1 => .ok (frzD s1 d).1 (frzD s1 d).2
theorem se_frz (h : SE X C e fe) : SE X C e (eFrz fe) := pe_weak h fun σ H Q ⟨δ, v, re, eH, h⟩ =>
  ⟨δ, v, re, eH, on_mono (on_bind h) fun d x v1 l1 s1 r1 h1 => by
    obtain ⟨v2, l2, s2, eH2, es2, r2⟩ := frzD_ok s1 r1
    have h2 : Q x v2.H := h1 x v2 l2 s2 es2 r2
    rw [eH2] at h2
    exact h2⟩
/-- the list at x is frozen from here on -/
def sFrz (i : Nat) (f : S) : S := fun δ s => match δ[i]? with
  | some (some d) => f (δ.set i (some (frzD s d).1)) (frzD s d).2
  | _ => f δ s
theorem ss_frz (i : Nat) {st : Stmt} {g : S} (h : SS X C st g) : SS X C st (sFrz i g) := ps_weak h fun Dn σ H ⟨δ, v, re, eH, h⟩ => by
  unfold sFrz at h
  split at h
  · rename_i d q
    obtain ⟨x, e0, r0⟩ := re.sl i d q
    obtain ⟨v2, l2, s2, eH2, es2, r2⟩ := frzD_ok re.sr r0
    have re2 := (re.step l2 s2).setV i r2
    have eσ : σ.set i (some x) = σ := by
      apply List.ext_getElem?
      intro j
      by_cases z : i = j
      · subst z
        rw [List.getElem?_set_self (List.getElem?_eq_some_iff.mp e0).1, e0]
      · rw [List.getElem?_set_ne z]
    rw [eσ] at re2
    rw [← es2] at h
    exact ⟨_, v2, re2, eH2.trans eH, onS_same l2 h⟩
  · exact ⟨δ, v, re, eH, h⟩
/-- o[b] = e of a list of the store -/
def sSetIx (o b e : E) : S := fun δ s => sBind (e δ s) δ fun d s1 => sBind (o δ s1) δ fun x s2 => sBind (b δ s2) δ fun z s3 => match lsO s3 x, z with
  | some xs, .int k => (match ixN xs.length k with
    | some j => .nx δ (stO s3 x (xs.set j d))
    | none => .stk)
  | _, _ => .stk
theorem ss_setIx {p2 : Pos} (ho : SE X C o fo) (hi : SE X C b fb) (he : SE X C e fe)
    (ha : ∀ v, assign (.Subscript o b p2) X.env v = (do
      let ov ← holding [v] (eval o X.env)
      let iv ← holding [v, ov] (eval b X.env)
      standAt p2
      holding [v, ov, iv] (setItem ov iv v)
      release [v, ov, iv] []) := by intro _; rfl)
    (hs : swapsWithSole [.Subscript o b p2] e pos.line X.env = pure false := by rfl) (hw : swappedStores [.Subscript o b p2] e X.env = pure none := by rfl)
    (h1 : (assignEach [.Subscript o b p2] X.env).map (·.2) = [assign (.Subscript o b p2) X.env] := by rfl) :
    SS X C (.Assign [.Subscript o b p2] e pos) (sSetIx fo fb fe) :=
  ps_weak (ps_asg he (pg_sub ho hi set_list ha) hs hw h1) fun Dn σ H ⟨δ, v, re, eH, h⟩ => by
    refine ⟨δ, v, re, eH, on_mono (onS_R re h) fun d x v1 l1 s1 r1 h1 => ?_⟩
    have re1 := re.step l1 s1
    refine ⟨δ, v1, re1, rfl, on_mono (onS_R re1 h1) fun d2 x2 v2 l2 s2 r2 h2 => ?_⟩
    have re2 := re1.step l2 s2
    refine ⟨δ, v2, re2, rfl, on_mono (onS_R re2 h2) fun z u v3 l3 s3 r3 h3 => ?_⟩
    have re3 := re2.step l3 s3
    split at h3
    · rename_i xs k e0
      split at h3
      · rename_i j ej
        obtain ⟨i, p, vs, rfl, rfl, em, q0, hh, r0⟩ := lsO_at s3 (l3.rep r2) e0
        cases r3
        have hl := r0.length
        obtain ⟨l4, s4⟩ := stO_ok s3 em q0 (r0.set j ((l2.trans l3).rep r1))
        exact ⟨p, vs, k, j, rfl, rfl, hh, by rw [← hl]; exact ej, h3 σ (v3.put i p (.lst (vs.set j x)) (.lst (xs.set j d))) (re3.step l4 s4) l4 rfl⟩
      · exact h3.elim
    · exact h3.elim
end
end Gs

/-! G9: walks, constants, ends; reckoning with the functions over data and store. -/
namespace Gs
open PySem L2
theorem hu_big {A : Around} {k : Nat} (hr : Room k A) : A.units + 64 < cLine := hr.units
/-- turns that a while may take -/
def fuel : Nat := 100000
/-- what is asked of the law: a script's numbers, True -/
def spL (K : PySem.W.Frag) (F : List D → Sto → R D) : Sp := fun vs H Q E => ∃ (a : Addr) (ns : List Int) (s' : Sto), vs = [.ref a] ∧ SqL K H a (ns.map V.int) ∧ F [.lst (ns.map D.int)] [] = .ok (.bl true) s' ∧ ∀ H', Q (.bl true) H'
theorem fn_law {P : Program} {w : World} {K : PySem.W.Frag} {mg : Str → Option Value} {base : Heap} {CX : CXT} {k : Nat} {f : Addr} {fd : FuncData} {ps : List Str} {ct : String → Addr} {F : List D → Sto → R D} (h : FnOk P w K mg base CX k f fd ps (spG K ct 1 F)) :
    FnOk P w K mg base CX k f fd ps (spL K F) := by
  have cv : ∀ (vs : List V) (H : Hp) (Q : VK) (E : XK), spL K F vs H Q E → spG K ct 1 F vs H Q E := by
    rintro vs H Q E ⟨a, ns, s', rfl, hS, hF, q⟩
    refine ⟨⟨H, H, fun _ => none, []⟩, [.lst (ns.map D.int)], rfl, ⟨Same.refl _, fun _ _ => rfl, fun i o e => ?_, fun i j o u a e => ?_, fun i kvs e => by simp at e⟩, rfl, .cons (.lst hS (RepL.ints ns)) .nil, ?_⟩
    · simp at e
    · simp at e
    · show match F [.lst (ns.map D.int)] [] with
        | .ok d s => _
        | .exc e s => _
        | .stk => _
      rw [hF]
      intro x v' l sr es r
      cases r
      exact q v'.H
  exact ⟨fun vs H Q E z => h.len vs H Q E (cv vs H Q E z), fun A outer s H args us vs Q E a b c d z => h.run A outer s H args us vs Q E a b c d (cv vs H Q E z)⟩
theorem law_sp {K : PySem.W.Frag} {H : Hp} {a : Addr} {ns : List Int} {F : List D → Sto → R D} (hS : SqL K H a (ns.map V.int)) (h : ∃ s', F [.lst (ns.map D.int)] [] = .ok (.bl true) s') : spL K F [.ref a] H (fun v _ => v = .bl true) fun _ _ _ => False :=
  let ⟨s', e⟩ := h
  ⟨a, ns, s', rfl, hS, e, fun _ => rfl⟩
theorem law_cx {P : Program} {w : World} {H : Hp} {s : Shared} {e : Value} {s' : Shared} (h : L2.CX P w [] H s (fun _ _ _ => False) e s') : False := by
  obtain ⟨_, _, _, _, _, _, _, _, _, _, _, _, z⟩ := h
  exact z
/-! ### constants of the module -/
def KC (K : PySem.W.Frag) (mg : Str → Option Value) (x : Str) (d : D) : Prop := ∀ ct : String → Addr, ∃ v u, mg x = some u ∧ RelV v u ∧ ∀ G m, Rep K ct G m d v
theorem se_con {X : Cx} {C : Cc} {x : Str} {d : D} {pos : Pos} (h : KC X.K X.mg x d) (hg : Gl X x := by rfl) (hd : (x == ("__debug__" : Str)) = false := by decide) : SE X C (.Name x pos) (eC d) := by
  obtain ⟨v, u, hm, r, q⟩ := h C.ct
  exact se_const (pe_glob hg hm r hd) q
theorem kc_tup {K : PySem.W.Frag} {mg : Str → Option Value} {x : Str} {ss : List Str} {a : Addr} {o : Obj} {its : Array Value} {n : Nat} (hm : mg x = some (.ref a)) (hl : K.lookup a = some o) (hc : o.cls = .type "tuple") (hd : o.data = .seq its n) (hs : its.size ≤ sizeLine) (hv : Vals (ss.map V.str) its.toList) : KC K mg x (.tup (ss.map .str)) :=
  fun ct => ⟨.ref a, .ref a, hm, rfl, fun G m => .tup (.inr ⟨o, its, n, hl, hc, hd, hs, hv⟩) (RepL.strs ss)⟩
/-- what is known of an own class of the program, over ValueError, without own __init__ -/
structure XC (K : PySem.W.Frag) (mg : Str → Option Value) (ct : String → Addr) (cn : String) : Prop where
  g : mg (Str.ofString cn) = some (.ref (ct cn))
  k : PySem.W.keepIn K (.ref (ct cn)) = true
  q : PySem.W.excIn K (ct cn) [.type "ValueError", .type "Exception", .type "BaseException", .type "object"] "ValueError.__new__" = true
  b : PySem.W.subIn K (.ref (ct cn)) (.type "BaseException") = some true
  t : PySem.W.typeIn K (.ref (ct cn)) = some (.type "type")
  d : PySem.W.hasDictIn K (ct cn) = true

section
variable {X : Cx} {C : Cc} {pos : Pos}
def sRaise (cn : String) : S := fun δ s => .exc ⟨cn, []⟩ δ s
theorem ss_raise {cn : String} {m : Str} {j : Nat} {p p2 p3 : Pos} (hc : X.calm = true) (tk : Takes X C.W) (c : XC X.K X.mg C.ct cn) (hg : Gl X (Str.ofString cn)) (hdb : ((Str.ofString cn) == ("__debug__" : Str)) = false := by decide) :
    SS X C (.Raise (some (.Call (.Name (Str.ofString cn) p) [.Constant (.str m) j p2] [] p3)) none pos) (sRaise cn) :=
  ps_weak (ps_raise hc tk (pmk_own PySem.F.excBase_ValueError c.q c.g c.k (raises_own c.b c.t) hg hdb)) fun Dn σ H ⟨δ, v, re, eH, h⟩ => by
    subst eH
    exact h _ none σ v re .refl rfl ⟨rfl, .inl ⟨rfl, rfl⟩⟩
end
/-! ### walks -/
/-! max, min of a list of numbers -/
def maxI : List Int → Option Int
  | [] => none
  | x :: xs => match maxI xs with
    | none => some x
    | some m => some (if x ≤ m then m else x)
def minI : List Int → Option Int
  | [] => none
  | x :: xs => match minI xs with
    | none => some x
    | some m => some (if m ≤ x then m else x)
theorem maxI_none : ∀ {xs : List Int}, maxI xs = none → xs = []
  | [], _ => rfl
  | x :: xs, h => by
    simp only [maxI] at h
    split at h <;> exact nomatch h
theorem minI_none : ∀ {xs : List Int}, minI xs = none → xs = []
  | [], _ => rfl
  | x :: xs, h => by
    simp only [minI] at h
    split at h <;> exact nomatch h
theorem maxI_spec : ∀ {xs : List Int} {m : Int}, maxI xs = some m → m ∈ xs ∧ ∀ y ∈ xs, y ≤ m
  | [], m, h => nomatch h
  | x :: xs, m, h => by
    simp only [maxI] at h
    split at h
    · rename_i e
      have := maxI_none e
      subst this
      cases h
      exact ⟨by simp, fun y hy => by simp at hy; omega⟩
    · rename_i m' e
      obtain ⟨h1, h2⟩ := maxI_spec e
      simp only [Option.some.injEq] at h
      subst h
      refine ⟨?_, fun y hy => ?_⟩
      · split
        · exact List.mem_cons_of_mem _ h1
        · exact List.mem_cons_self
      · rcases List.mem_cons.mp hy with rfl | hy
        · split <;> omega
        · have := h2 y hy
          split <;> omega
theorem minI_spec : ∀ {xs : List Int} {m : Int}, minI xs = some m → m ∈ xs ∧ ∀ y ∈ xs, m ≤ y
  | [], m, h => nomatch h
  | x :: xs, m, h => by
    simp only [minI] at h
    split at h
    · rename_i e
      have := minI_none e
      subst this
      cases h
      exact ⟨by simp, fun y hy => by simp at hy; omega⟩
    · rename_i m' e
      obtain ⟨h1, h2⟩ := minI_spec e
      simp only [Option.some.injEq] at h
      subst h
      refine ⟨?_, fun y hy => ?_⟩
      · split
        · exact List.mem_cons_of_mem _ h1
        · exact List.mem_cons_self
      · rcases List.mem_cons.mp hy with rfl | hy
        · split <;> omega
        · have := h2 y hy
          split <;> omega

section
variable {K : PySem.W.Frag} {ct : String → Addr} {v : Vw}
theorem RE.frz {C : Cc} {σ : L2.St} {δ : Sl} {v : Vw} (r : RE K C σ δ v) : Le C.v0 v := r.le
def enumD (xs : List D) : List D := xs.zipIdx.map fun p => .tup [.int (p.2 : Nat), p.1]
theorem itOk_enum {a : Addr} {vs : List V} {ds : List D} (h : SqL K v.G a vs) (r : RepL K ct v.G v.m ds vs) : ItOk K ct (Ite K a) v (enumD ds) where
  go := fun i w l s hi => by
    have hi' : i < ds.length := by simpa [enumD] using hi
    obtain ⟨x, e, _⟩ := r.get (List.getElem?_eq_getElem hi')
    exact ⟨vs, x, s.sub.seq (l.g.seq h), e⟩
  stop := fun i w l s hi => by
    have : ds.length ≤ i := by simpa [enumD] using hi
    exact ⟨vs, s.sub.seq (l.g.seq h), by rw [← r.length]; exact this⟩
  yld := fun i w z H' l s hi y => by
    have hi' : i < ds.length := by simpa [enumD] using hi
    obtain ⟨x, e, rv⟩ := r.get (List.getElem?_eq_getElem hi')
    obtain ⟨T, x', rfl, hT, rfl, y2⟩ := y
    have z2 := y2 vs (s.sub.seq (l.g.seq h))
    rw [e] at z2
    cases z2
    obtain ⟨l2, s2⟩ := new_ok (o := .tup [.int (i : Nat), x]) s hT
    exact ⟨.tup [.int (i : Nat), ds[i]], w.new T (.tup [.int (i : Nat), x]), by simp [enumD, hi'], rfl, l2, s2, rfl, .tup (SqT.of upd_same) (.cons (.int _) (.cons (l2.rep (l.rep rv)) .nil))⟩
theorem itOk_rev {a : Addr} {vs : List V} {ds : List D} (h : SqL K v.G a vs) (r : RepL K ct v.G v.m ds vs) : ItOk K ct (Itv K a vs.length) v ds.reverse where
  go := fun i w l s hi => by
    have hi' : i < ds.length := by simpa using hi
    have hl := r.length
    obtain ⟨x, e, _⟩ := r.get (List.getElem?_eq_getElem (show vs.length - 1 - i < ds.length by omega))
    exact ⟨by omega, vs, x, s.sub.seq (l.g.seq h), e⟩
  stop := fun i w l s hi => by
    have hl := r.length
    have : ds.length ≤ i := by simpa using hi
    show vs.length ≤ i
    omega
  yld := fun i w x H' l s hi y => by
    have hi' : i < ds.length := by simpa using hi
    have hl := r.length
    have hi2 : vs.length - 1 - i < ds.length := by omega
    obtain ⟨x0, e, rv⟩ := r.get (List.getElem?_eq_getElem hi2)
    obtain ⟨rfl, y2⟩ := y
    have z := y2 vs (s.sub.seq (l.g.seq h))
    rw [e] at z
    cases z
    refine ⟨_, w, ?_, rfl, .refl, s, rfl, l.rep rv⟩
    rw [List.getElem?_reverse hi', List.getElem?_eq_getElem (by omega)]
    congr 1
    exact getElem_congr rfl (by omega) _
def zipD (xs ys : List D) : List D := List.zipWith (fun x y => .tup [x, y]) xs ys
theorem zipD_get {xs ys : List D} {i : Nat} (hi : i < (zipD xs ys).length) : ∃ x y, xs[i]? = some x ∧ ys[i]? = some y ∧ (zipD xs ys)[i]? = some (.tup [x, y]) := by
  have h1 : i < xs.length ∧ i < ys.length := by
    simp only [zipD, List.length_zipWith] at hi
    omega
  exact ⟨xs[i], ys[i], List.getElem?_eq_getElem h1.1, List.getElem?_eq_getElem h1.2, by simp [zipD, List.getElem?_zipWith, h1.1, h1.2]⟩
theorem itOk_zip {a b : Addr} {vs us : List V} {ds es : List D} (h : SqL K v.G a vs) (h2 : SqL K v.G b us) (r : RepL K ct v.G v.m ds vs) (r2 : RepL K ct v.G v.m es us) : ItOk K ct (Itz K a b) v (zipD ds es) where
  go := fun i w l s hi => by
    obtain ⟨x, y, e1, e2, _⟩ := zipD_get hi
    obtain ⟨x1, e3, _⟩ := r.get e1
    obtain ⟨y1, e4, _⟩ := r2.get e2
    exact ⟨vs, us, x1, y1, s.sub.seq (l.g.seq h), s.sub.seq (l.g.seq h2), e3, e4⟩
  stop := fun i w l s hi => by
    have := hi
    simp only [zipD, List.length_zipWith] at this
    have hl := r.length
    have hl2 := r2.length
    exact ⟨vs, us, s.sub.seq (l.g.seq h), s.sub.seq (l.g.seq h2), by omega⟩
  yld := fun i w z H' l s hi y => by
    obtain ⟨dx, dy, e1, e2, e5⟩ := zipD_get hi
    obtain ⟨x1, e3, rv⟩ := r.get e1
    obtain ⟨y1', e4, ru⟩ := r2.get e2
    obtain ⟨T, x0, y0, rfl, hT, rfl, y1, y2⟩ := y
    have z := y1 vs (s.sub.seq (l.g.seq h))
    rw [e3] at z
    cases z
    have z2 := y2 us (s.sub.seq (l.g.seq h2))
    rw [e4] at z2
    cases z2
    obtain ⟨l2, s2⟩ := new_ok (o := .tup [x1, y1']) s hT
    exact ⟨.tup [dx, dy], w.new T (.tup [x1, y1']), e5, rfl, l2, s2, rfl, .tup (SqT.of upd_same) (.cons (l2.rep (l.rep rv)) (.cons (l2.rep (l.rep ru)) .nil))⟩
theorem itOk_zipT {a b : Addr} {vs us : List V} {ds es : List D} (h : SqT K v.G a vs) (h2 : SqT K v.G b us) (r : RepL K ct v.G v.m ds vs) (r2 : RepL K ct v.G v.m es us) : ItOk K ct (RZ.ItzT K a b) v (zipD ds es) where
  go := fun i w l s hi => by
    obtain ⟨x, y, e1, e2, _⟩ := zipD_get hi
    obtain ⟨x1, e3, _⟩ := r.get e1
    obtain ⟨y1, e4, _⟩ := r2.get e2
    exact ⟨vs, us, x1, y1, sqt_mono s.sub (sqt_mono l.g h), sqt_mono s.sub (sqt_mono l.g h2), e3, e4⟩
  stop := fun i w l s hi => by
    have := hi
    simp only [zipD, List.length_zipWith] at this
    have hl := r.length
    have hl2 := r2.length
    exact ⟨vs, us, sqt_mono s.sub (sqt_mono l.g h), sqt_mono s.sub (sqt_mono l.g h2), by omega⟩
  yld := fun i w z H' l s hi y => by
    obtain ⟨dx, dy, e1, e2, e5⟩ := zipD_get hi
    obtain ⟨x1, e3, rv⟩ := r.get e1
    obtain ⟨y1', e4, ru⟩ := r2.get e2
    obtain ⟨T, x0, y0, rfl, hT, rfl, y1, y2⟩ := y
    have z := y1 vs (sqt_mono s.sub (sqt_mono l.g h))
    rw [e3] at z
    cases z
    have z2 := y2 us (sqt_mono s.sub (sqt_mono l.g h2))
    rw [e4] at z2
    cases z2
    obtain ⟨l2, s2⟩ := new_ok (o := .tup [x1, y1']) s hT
    exact ⟨.tup [dx, dy], w.new T (.tup [x1, y1']), e5, rfl, l2, s2, rfl, .tup (SqT.of upd_same) (.cons (l2.rep (l.rep rv)) (.cons (l2.rep (l.rep ru)) .nil))⟩
theorem itOk_rngC {lo : Int} {n : Nat} : ItOk K ct (Itc (lo + (n : Int) - 1) (-1) n) v (rngD lo n).reverse where
  go := fun i w l s hi => by show i < n; simpa [rngD] using hi
  stop := fun i w l s hi => by show n ≤ i; simpa [rngD] using hi
  yld := fun i w z H' l s hi y => by
    obtain ⟨rfl, rfl⟩ := y
    have hi' : i < n := by simpa [rngD] using hi
    refine ⟨_, w, ?_, rfl, .refl, s, rfl, .int _⟩
    rw [List.getElem?_reverse (by simpa [rngD] using hi'), ints_get (by simp only [rngD, List.length_map, List.length_range]; omega)]
    congr 2
    simp only [rngD, List.length_map, List.length_range]
    omega
def rngS (lo c : Int) (n : Nat) : List D := (List.range n).map fun (i : Nat) => .int (lo + (i : Int) * c)
theorem rngS_get {lo c : Int} {n i : Nat} (h : i < n) : (rngS lo c n)[i]? = some (.int (lo + (i : Int) * c)) := by simp [rngS, h]
theorem itOk_rngS {lo c : Int} {n : Nat} : ItOk K ct (Itc lo c n) v (rngS lo c n) where
  go := fun i w l s hi => by show i < n; simpa [rngS] using hi
  stop := fun i w l s hi => by show n ≤ i; simpa [rngS] using hi
  yld := fun i w z H' l s hi y => by
    obtain ⟨rfl, rfl⟩ := y
    exact ⟨_, w, rngS_get (by simpa [rngS] using hi), rfl, .refl, s, rfl, .int _⟩
end
def iEnumD (a : As) : As := fun δ s => (a δ s).bind fun ds s1 => match ds with
  | [.lst xs] => .ok (enumD xs) s1
  | _ => .stk
def iRevD (a : As) : As := fun δ s => (a δ s).bind fun ds s1 => match ds with
  | [.lst xs] => .ok xs.reverse s1
  | _ => .stk
def iZipD (a : As) : As := fun δ s => (a δ s).bind fun ds s1 => match ds with
  | [.lst xs, .lst ys] => .ok (zipD xs ys) s1
  | [.tup xs, .tup ys] => .ok (zipD xs ys) s1
  | _ => .stk
def iRevR2 (a b : E) : As := fun δ s => (a δ s).bind fun x s1 => (b δ s1).bind fun y s2 => match x, y with
  | .int i, .int j => if -(2 ^ 62) ≤ i ∧ i < 2 ^ 62 ∧ -(2 ^ 62) ≤ j ∧ j < 2 ^ 62 then .ok (rngD i (j - i).toNat).reverse s2 else .stk
  | _, _ => .stk
def rng3Ok (i j c : Int) : Prop := c ≠ 0 ∧ c.natAbs < 1073741824 ∧ Builtin.Range.small i j c = true ∧ 0 ≤ Builtin.Range.rangeSize i j c
instance (i j c : Int) : Decidable (rng3Ok i j c) := inferInstanceAs (Decidable (c ≠ 0 ∧ c.natAbs < 1073741824 ∧ Builtin.Range.small i j c = true ∧ 0 ≤ Builtin.Range.rangeSize i j c))
def iRange3 (a : As) : As := fun δ s => (a δ s).bind fun ds s1 => match ds with
  | [.int i, .int j, .int c] => if rng3Ok i j c then .ok (rngS i c (Builtin.Range.rangeSize i j c).toNat) s1 else .stk
  | _ => .stk
section
variable {X : Cx} {C : Cc} {tg : Expr}
theorem si_enum {e : Expr} {f : As} {p pos tpos : Pos} {elts : List Expr} {kk : Nat} (hg : Gl X "enumerate") (hm : X.mg "enumerate" = none) (ha : SA X C [e] f) (hs : starEach [e] X.env = [(false, eval e X.env)] := by rfl) :
    SI X C (.Tuple elts kk tpos) (.Call (.Name "enumerate" p) [e] [] pos) (iEnumD f) :=
  pi_weak (pi_enum hg hm ha hs) fun σ H R ⟨δ, v, re, eH, h⟩ => ⟨δ, v, re, eH, on_mono (on_bind h) fun ds vs v1 l1 s1 r1 h1 => by
    split at h1
    · cases r1 with
      | cons r2 r3 =>
        cases r3
        cases r2 with
        | @lst _ _ a us _ pp q => exact ⟨a, us, rfl, s1.sub.seq pp, on_self s1 h1 (itOk_enum pp q)⟩
    · exact h1.elim⟩
theorem si_rev {e : Expr} {f : As} {p pos : Pos} (hg : Gl X "reversed") (hm : X.mg "reversed" = none) (ha : SA X C [e] f) (hs : starEach [e] X.env = [(false, eval e X.env)] := by rfl) : SI X C tg (.Call (.Name "reversed" p) [e] [] pos) (iRevD f) :=
  pi_weak (pi_reversed hg hm ha hs) fun σ H R ⟨δ, v, re, eH, h⟩ => ⟨δ, v, re, eH, on_mono (on_bind h) fun ds vs v1 l1 s1 r1 h1 => by
    split at h1
    · cases r1 with
      | cons r2 r3 =>
        cases r3
        cases r2 with
        | @lst _ _ a us _ pp q => exact ⟨a, us, rfl, s1.sub.seq pp, on_self s1 h1 (itOk_rev pp q)⟩
    · exact h1.elim⟩
theorem si_zip {e e2 : Expr} {f : As} {p pos tpos : Pos} {elts : List Expr} {kk : Nat} (hg : Gl X "zip") (hm : X.mg "zip" = none) (ha : SA X C [e, e2] f)
    (hs : starEach [e, e2] X.env = (false, eval e X.env) :: starEach [e2] X.env := by rfl) (hpl : (backTo pos (starEach [e2] X.env)).any (·.1) = false := by rfl) :
    SI X C (.Tuple elts kk tpos) (.Call (.Name "zip" p) [e, e2] [] pos) (iZipD f) :=
  pi_weak (RZ.pi_zipA hg hm ha hs hpl) fun σ H R ⟨δ, v, re, eH, h⟩ => ⟨δ, v, re, eH, on_mono (on_bind h) fun ds vs v1 l1 s1 r1 h1 => by
    split at h1
    · cases r1 with
      | cons r2 r3 =>
        cases r3 with
        | cons r3 r4 =>
          cases r4
          cases r2 with
          | @lst _ _ a us _ pp q =>
            cases r3 with
            | @lst _ _ b ws _ pp2 q2 => exact ⟨a, b, us, ws, rfl, .inl ⟨s1.sub.seq pp, s1.sub.seq pp2, on_self s1 h1 (itOk_zip pp pp2 q q2)⟩⟩
    · cases r1 with
      | cons r2 r3 =>
        cases r3 with
        | cons r3 r4 =>
          cases r4
          cases r2 with
          | @tup _ _ a us _ pp q =>
            cases r3 with
            | @tup _ _ b ws _ pp2 q2 => exact ⟨a, b, us, ws, rfl, .inr ⟨sqt_mono s1.sub pp, sqt_mono s1.sub pp2, on_self s1 h1 (itOk_zipT pp pp2 q q2)⟩⟩
    · exact h1.elim⟩
theorem si_revR2 {a b : Expr} {fa fb : E} {p p2 pos pos2 : Pos} (hg : Gl X "reversed") (hm : X.mg "reversed" = none) (hgr : Gl X "range") (hmr : X.mg "range" = none) (ha : SE X C a fa) (hb : SE X C b fb)
    (hs : starEach [.Call (.Name "range" p2) [a, b] [] pos2] X.env = (false, eval (.Call (.Name "range" p2) [a, b] [] pos2) X.env) :: starEach [] X.env := by rfl)
    (hs1 : starEach [a, b] X.env = (false, eval a X.env) :: starEach [b] X.env := by rfl) (hs2 : starEach [b] X.env = (false, eval b X.env) :: starEach [] X.env := by rfl) (hp : (backTo pos2 (starEach [b] X.env)).any (·.1) = false := by rfl) :
    SI X C tg (.Call (.Name "reversed" p) [.Call (.Name "range" p2) [a, b] [] pos2] [] pos) (iRevR2 fa fb) :=
  pi_weak (pi_revR hg hm (prg_2 hgr hmr ha hb hs1 hs2 hp) hs) fun σ H R ⟨δ, v, re, eH, h⟩ => ⟨δ, v, re, eH, on_mono (on_bind h) fun d x v1 l1 s1 r1 h1 => ⟨δ, v1, re.step l1 s1, rfl, on_mono (on_bind h1) fun d2 x2 v2 l2 s2 r2 h2 => by
    split at h2
    · cases r1
      cases r2
      split at h2
      · rename_i hz
        exact ⟨_, _, rfl, rfl, hz.1, hz.2.1, hz.2.2.1, hz.2.2.2, on_self s2 h2 itOk_rngC⟩
      · exact h2.elim
    · exact h2.elim⟩⟩
theorem si_range3 {a b c : Expr} {f : As} {p pos : Pos} (hg : Gl X "range") (hm : X.mg "range" = none) (ha : SA X C [a, b, c] f)
    (hs : starEach [a, b, c] X.env = (false, eval a X.env) :: starEach [b, c] X.env := by rfl) (hpl : (backTo pos (starEach [b, c] X.env)).any (·.1) = false := by rfl) :
    SI X C tg (.Call (.Name "range" p) [a, b, c] [] pos) (iRange3 f) :=
  pi_weak (pi_range3 hg hm ha hs hpl) fun σ H R ⟨δ, v, re, eH, h⟩ => ⟨δ, v, re, eH, on_mono (on_bind h) fun ds vs v1 l1 s1 r1 h1 => by
    split at h1
    · rename_i i j c
      cases r1 with
      | cons r2 r3 =>
        cases r2
        cases r3 with
        | cons r4 r5 =>
          cases r4
          cases r5 with
          | cons r6 r7 =>
            cases r6
            cases r7
            split at h1
            · rename_i hz
              obtain ⟨z1, z2, z3, z4⟩ := hz
              exact ⟨_, _, _, _, rfl, ⟨z1, z2, z3, (Int.toNat_of_nonneg z4).symm⟩, on_self s1 h1 itOk_rngS⟩
            · exact h1.elim
    · exact h1.elim⟩
def eBits (f : E) : E := fun δ s => (f δ s).bind fun d s1 => match d with
  | .int i => .ok (.int (Builtin.Int.intBits i : Nat)) s1
  | _ => .stk
theorem se_bits {o : Expr} {f : E} {apos pos : Pos} (ho : SE X C o f) (hbase : attributeBase o "bit_length" X.env (eval o X.env) = eval o X.env := by rfl) (hline : (apos.endLine == pos.line) = true := by rfl) : SE X C (.Call (.Attribute o "bit_length" apos) [] [] pos) (eBits f) :=
  pe_weak (pe_bits ho hbase hline) fun σ H Q ⟨δ, v, re, eH, h⟩ => ⟨δ, v, re, eH, on_mono (on_bind h) fun d x v1 l1 s1 r1 h1 => by
    cases r1 with
    | int i => exact ⟨i, rfl, on_self s1 h1 (.int _)⟩
    | _ => exact h1.elim⟩
end
/-! ### reckoning -/
theorem runG_rt {N : Nat} {body : S} {ds : List D} {s s' : Sto} {d : D} (h : body (ds.map some ++ List.replicate (N - ds.length) none) s = .rt d s') : runG N body ds s = .ok d s' := by unfold runG; rw [h]
theorem runG_nx {N : Nat} {body : S} {ds : List D} {s s' : Sto} {δ : Sl} (h : body (ds.map some ++ List.replicate (N - ds.length) none) s = .nx δ s') : runG N body ds s = .ok .non s' := by unfold runG; rw [h]
theorem runG_exc {N : Nat} {body : S} {ds : List D} {s s' : Sto} {e : Ex} {δ : Sl} (h : body (ds.map some ++ List.replicate (N - ds.length) none) s = .exc e δ s') : runG N body ds s = .exc e s' := by unfold runG; rw [h]
/-- a loop whose turns go on -/
theorem forD_inv {p : Pt} {body : S} (Inv : Nat → Sl → Sto → Prop) : ∀ (items : List D) (k : Nat) (δ : Sl) (s : Sto), Inv k δ s →
    (∀ i d δ s, items[i]? = some d → Inv (k + i) δ s → ∃ δ1, bindP p d δ = some δ1 ∧ ∃ δ2 s2, body δ1 s = .nx δ2 s2 ∧ Inv (k + i + 1) δ2 s2) → ∃ δ' s', forD p body items δ s = .nx δ' s' ∧ Inv (k + items.length) δ' s'
  | [], k, δ, s, h0, _ => ⟨δ, s, rfl, h0⟩
  | d :: ds, k, δ, s, h0, hs => by
    obtain ⟨δ1, e1, δ2, s2, e2, h2⟩ := hs 0 d δ s rfl h0
    obtain ⟨δ', s', e3, h3⟩ := forD_inv Inv ds (k + 1) δ2 s2 h2 fun i d δ s hd hi => by
      have z := hs (i + 1) d δ s (by simpa using hd) (by rw [show k + (i + 1) = k + 1 + i by omega]; exact hi)
      rw [show k + (i + 1) + 1 = k + 1 + i + 1 by omega] at z
      exact z
    refine ⟨δ', s', ?_, by rw [List.length_cons, show k + (ds.length + 1) = k + 1 + ds.length by omega]; exact h3⟩
    simp only [forD, e1, e2, e3]
theorem rngD_length (lo : Int) (n : Nat) : (rngD lo n).length = n := by simp [rngD]
theorem rngD_some {lo : Int} {n i : Nat} {d : D} (h : (rngD lo n)[i]? = some d) : i < n ∧ d = .int (lo + (i : Int)) := by
  have hi : i < n := by
    have := (List.getElem?_eq_some_iff.mp h).1
    simpa [rngD] using this
  rw [ints_get hi] at h
  exact ⟨hi, (Option.some.inj h).symm⟩
theorem forR {p : Pt} {body : S} {lo : Int} {n : Nat} {δ : Sl} {s : Sto} (Inv : Nat → Sl → Sto → Prop) (h0 : Inv 0 δ s)
    (hs : ∀ i δ s, i < n → Inv i δ s → ∃ δ1, bindP p (.int (lo + (i : Int))) δ = some δ1 ∧ ∃ δ2 s2, body δ1 s = .nx δ2 s2 ∧ Inv (i + 1) δ2 s2) : ∃ δ' s', forD p body (rngD lo n) δ s = .nx δ' s' ∧ Inv n δ' s' := by
  have z := forD_inv (p := p) (body := body) Inv (rngD lo n) 0 δ s h0 fun i d δ s hd hi => by
    obtain ⟨h1, h2⟩ := rngD_some hd
    subst h2
    rw [Nat.zero_add] at hi ⊢
    exact hs i δ s h1 hi
  rw [Nat.zero_add, rngD_length] at z
  exact z
theorem whileK {c : T} {body : S} (Inv : Nat → Sl → Sto → Prop)
    (hs : ∀ k δ s, Inv k δ s → c δ s = .ok false s ∨ (c δ s = .ok true s ∧ ∃ δ2 s2, body δ s = .nx δ2 s2 ∧ ∃ k', k' < k ∧ Inv k' δ2 s2)) : ∀ (n k : Nat) (δ : Sl) (s : Sto), Inv k δ s → k < n → ∃ δ' s' k', whileD c body n δ s = .nx δ' s' ∧ Inv k' δ' s' ∧ c δ' s' = .ok false s'
  | 0, k, δ, s, _, h => by omega
  | n + 1, k, δ, s, hi, h => by
    rcases hs k δ s hi with hc | ⟨hc, δ2, s2, hb, k2, hk, hi2⟩
    · exact ⟨δ, s, k, by simp only [whileD, hc], hi, hc⟩
    · obtain ⟨δ', s', k', e, h2⟩ := whileK Inv hs n k2 δ2 s2 hi2 (by omega)
      exact ⟨δ', s', k', by simp only [whileD, hc, hb, e], h2⟩
/-- turns of a comprehension that leave the store -/
theorem lcD_mapL {α : Type} {p : Pt} {c : T} {e : E} {δ : Sl} {s : Sto} (g f : α → D) : ∀ l : List α, (∀ a ∈ l, ∃ δ1, bindP p (g a) δ = some δ1 ∧ c δ1 s = .ok true s ∧ e δ1 s = .ok (f a) s) → lcD p c e δ (l.map g) s = .ok (l.map f) s
  | [], _ => rfl
  | x :: l, h => by
    obtain ⟨δ1, e1, e2, e3⟩ := h x (by simp)
    have ih := lcD_mapL (p := p) (c := c) (e := e) (δ := δ) (s := s) g f l fun k hk => h k (by simp [hk])
    simp only [List.map_cons, lcD, e1, e2, e3, ih]
theorem ixN_ofNat {n j : Nat} (h : j < n) : ixN n (j : Int) = some j := by
  unfold ixN
  rw [if_pos (by omega), if_pos (by omega)]
  simp
theorem atI_ofNat {α : Type} (xs : List α) {j : Nat} (h : j < xs.length) : atI xs (j : Int) = some xs[j] := by
  unfold atI
  rw [ixN_ofNat h]
  exact List.getElem?_eq_getElem h

/-! ### sizes of products -/
theorem bits_le {i : Int} {a : Nat} (h : i.natAbs < 2 ^ a) : Builtin.Int.intBits i ≤ a := by
  unfold Builtin.Int.intBits
  split
  · exact Nat.zero_le _
  · rename_i hz
    have hz' : i.natAbs ≠ 0 := by
      simp only [beq_iff_eq] at hz
      omega
    exact Nat.succ_le_of_lt ((Nat.log2_lt hz').mpr h)
theorem mul_fits {i j : Int} {a b : Nat} (ha : i.natAbs < 2 ^ a) (hb : j.natAbs < 2 ^ b) (h : a + b ≤ 134217728) : IntMulOk i j := mulx_ok ha hb h |>.ok
theorem mul_fitsL {i j : Int} (ha : i.natAbs < 2 ^ 64) : IntMulOk i j := .of_left (bits_le ha)
theorem mul_fitsR {i j : Int} (ha : j.natAbs < 2 ^ 64) : IntMulOk i j := .of_right (bits_le ha)
theorem log_lt {n a : Nat} (h : n < 2 ^ a) (h0 : 0 < a) : n.log2 < a := by
  by_cases hz : n = 0
  · subst hz
    simpa using h0
  · exact (Nat.log2_lt hz).mpr h

@[simp] theorem mulOk_m1 (j : Int) : IntMulOk (-1) j := mul_fitsL (by decide)
@[simp] theorem mulOk_1 (j : Int) : IntMulOk 1 j := mul_fitsL (by decide)
@[simp] theorem mulOk_2 (j : Int) : IntMulOk 2 j := mul_fitsL (by decide)
@[simp] theorem mulOk_3 (j : Int) : IntMulOk 3 j := mul_fitsL (by decide)
@[simp] theorem mulOk_r2 (j : Int) : IntMulOk j 2 := mul_fitsR (by decide)
@[simp] theorem mulOk_r1000 (j : Int) : IntMulOk j 1000 := mul_fitsR (by decide)
@[simp] theorem mulOk_r1000003 (j : Int) : IntMulOk j 1000003 := mul_fitsR (by decide)
theorem log_small {n : Nat} (h : n < 2 ^ 64) : n.log2 < 9000 := Nat.lt_of_lt_of_le (log_lt h (by decide)) (by decide)
/-! ### unfolding -/
def rngOk (j : Int) : Prop := -(2 ^ 62) ≤ j ∧ j < 2 ^ 62
instance (j : Int) : Decidable (rngOk j) := inferInstanceAs (Decidable (-(2 ^ 62) ≤ j ∧ j < 2 ^ 62))
theorem rngOk_of {j : Int} (h1 : -1000000000 ≤ j) (h2 : j ≤ 1000000000) : rngOk j := by
  unfold rngOk
  omega
theorem rngOk_nat {j : Nat} (h : j ≤ 1000000000) : rngOk (j : Int) := rngOk_of (by omega) (by omega)
@[simp] theorem rngOk_0 : rngOk 0 := rngOk_of (by omega) (by omega)
@[simp] theorem rngOk_1 : rngOk 1 := rngOk_of (by omega) (by omega)
def divOk (j : Int) : Prop := 0 < j ∧ j.natAbs.log2 < 9000
instance (j : Int) : Decidable (divOk j) := inferInstanceAs (Decidable (0 < j ∧ j.natAbs.log2 < 9000))
theorem divOk_of {j : Int} {a : Nat} (h : 0 < j) (h2 : j.natAbs < 2 ^ a) (h3 : a ≤ 8999) : divOk j := ⟨h, by
  by_cases h0 : 0 < a
  · exact Nat.lt_of_lt_of_le (log_lt h2 h0) (by omega)
  · have e : a = 0 := by omega
    subst e
    have : (2 : Nat) ^ 0 = 1 := rfl
    omega⟩
theorem divOk_small {j : Int} (h : 0 < j) (h2 : j < 10 ^ 18) : divOk j := divOk_of (a := 64) h (by
  have : (10 : Int) ^ 18 < ((2 ^ 64 : Nat) : Int) := by decide
  omega) (by decide)
@[simp] theorem divOk_1 : divOk 1 := divOk_small (by decide) (by decide)
@[simp] theorem divOk_2 : divOk 2 := divOk_small (by decide) (by decide)
@[simp] theorem divOk_3 : divOk 3 := divOk_small (by decide) (by decide)
@[simp] theorem divOk_4 : divOk 4 := divOk_small (by decide) (by decide)
@[simp] theorem divOk_5 : divOk 5 := divOk_small (by decide) (by decide)
@[simp] theorem divOk_6 : divOk 6 := divOk_small (by decide) (by decide)
@[simp] theorem divOk_7 : divOk 7 := divOk_small (by decide) (by decide)
@[simp] theorem divOk_8 : divOk 8 := divOk_small (by decide) (by decide)
@[simp] theorem divOk_9 : divOk 9 := divOk_small (by decide) (by decide)
@[simp] theorem divOk_10 : divOk 10 := divOk_small (by decide) (by decide)
@[simp] theorem divOk_11 : divOk 11 := divOk_small (by decide) (by decide)
@[simp] theorem divOk_12 : divOk 12 := divOk_small (by decide) (by decide)
@[simp] theorem divOk_24 : divOk 24 := divOk_small (by decide) (by decide)
@[simp] theorem divOk_41 : divOk 41 := divOk_small (by decide) (by decide)
@[simp] theorem divOk_48 : divOk 48 := divOk_small (by decide) (by decide)
@[simp] theorem divOk_60 : divOk 60 := divOk_small (by decide) (by decide)
@[simp] theorem divOk_64 : divOk 64 := divOk_small (by decide) (by decide)
@[simp] theorem divOk_100 : divOk 100 := divOk_small (by decide) (by decide)
@[simp] theorem divOk_1000 : divOk 1000 := divOk_small (by decide) (by decide)
def powOk (i j : Int) : Prop := 0 ≤ j ∧ (Builtin.Int.intBits i : Int) * j ≤ 2 ^ 27
instance (i j : Int) : Decidable (powOk i j) := inferInstanceAs (Decidable (0 ≤ j ∧ (Builtin.Int.intBits i : Int) * j ≤ 2 ^ 27))
theorem powOk_of {i j : Int} {a : Nat} (hi : i.natAbs < 2 ^ a) (h0 : 0 ≤ j) (h : (a : Int) * j ≤ 134217728) : powOk i j := ⟨h0, by
  have h1 := bits_le hi
  have h2 : (Builtin.Int.intBits i : Int) * j ≤ (a : Int) * j := Int.mul_le_mul_of_nonneg_right (by omega) h0
  omega⟩
@[simp] theorem powOk_10 {j : Int} (h0 : 0 ≤ j) (h : j ≤ 1000) : powOk 10 j := powOk_of (a := 4) (by decide) h0 (by omega)
@[simp] theorem powOk_2 {j : Int} (h0 : 0 ≤ j) (h : j ≤ 1000000) : powOk 2 j := powOk_of (a := 2) (by decide) h0 (by omega)
@[simp] theorem powOk_1e60 {j : Int} (h0 : 0 ≤ j) (h : j ≤ 1000) : powOk 1000000000000000000000000000000000000000000000000000000000000 j := powOk_of (a := 200) (by decide) h0 (by omega)

@[simp] theorem v_bind_ok {α β : Type} (a : α) (s : Sto) (k : α → Sto → R β) : (R.ok a s).bind k = k a s := id rfl
@[simp] theorem v_bind_exc {α β : Type} (e : Ex) (s : Sto) (k : α → Sto → R β) : (R.exc e s).bind k = .exc e s := id rfl
@[simp] theorem v_bind_stk {α β : Type} (k : α → Sto → R β) : (R.stk : R α).bind k = .stk := id rfl
@[simp] theorem v_ofO_some {α : Type} (a : α) (s : Sto) : R.ofO (some a) s = .ok a s := id rfl
@[simp] theorem v_ofO_none {α : Type} (s : Sto) : R.ofO (none : Option α) s = .stk := id rfl
@[simp] theorem v_sBind_ok {α : Type} (a : α) (s : Sto) (δ : Sl) (k : α → Sto → RS) : sBind (.ok a s) δ k = k a s := id rfl
@[simp] theorem v_sBind_exc {α : Type} (e : Ex) (s : Sto) (δ : Sl) (k : α → Sto → RS) : sBind (.exc e s : R α) δ k = .exc e δ s := id rfl
@[simp] theorem v_sBind_stk {α : Type} (δ : Sl) (k : α → Sto → RS) : sBind (.stk : R α) δ k = .stk := id rfl
@[simp] theorem v_eV (i : Nat) (δ : Sl) (s : Sto) : eV i δ s = (match δ[i]? with | some (some d) => .ok d s | _ => .stk) := id rfl
@[simp] theorem v_eC (d : D) (δ : Sl) (s : Sto) : eC d δ s = .ok d s := id rfl
@[simp] theorem v_eBin (g : B2) (a b : E) (δ : Sl) (s : Sto) : eBin g a b δ s = (a δ s).bind fun x s1 => (b δ s1).bind fun y s2 => R.ofO (g (rsv s2 x) (rsv s2 y)) s2 := id rfl
@[simp] theorem v_eUn (g : B1) (a : E) (δ : Sl) (s : Sto) : eUn g a δ s = (a δ s).bind fun x s1 => R.ofO (g (rsv s1 x)) s1 := id rfl
@[simp] theorem v_eFn (g : BA) (a : As) (δ : Sl) (s : Sto) : eFn g a δ s = (a δ s).bind fun x s1 => R.ofO (g (x.map (rsv s1))) s1 := id rfl
@[simp] theorem v_eCall (F : List D → Sto → R D) (a : As) (δ : Sl) (s : Sto) : eCall F a δ s = (a δ s).bind F := id rfl
@[simp] theorem v_tV (f : E) (δ : Sl) (s : Sto) : tV f δ s = (f δ s).bind fun d s1 => match d with | .bl b => .ok b s1 | _ => .stk := id rfl
@[simp] theorem v_tNt (f : T) (δ : Sl) (s : Sto) : tNt f δ s = (f δ s).bind fun b s1 => .ok (!b) s1 := id rfl
@[simp] theorem v_tAn (f g : T) (δ : Sl) (s : Sto) : tAn f g δ s = (f δ s).bind fun b s1 => if b = true then g δ s1 else .ok false s1 := id rfl
@[simp] theorem v_tOrr (f g : T) (δ : Sl) (s : Sto) : tOrr f g δ s = (f δ s).bind fun b s1 => if b = true then .ok true s1 else g δ s1 := id rfl
@[simp] theorem v_tTrue (δ : Sl) (s : Sto) : tTrue δ s = .ok true s := id rfl
@[simp] theorem v_eAn (a b : E) (δ : Sl) (s : Sto) : eAn a b δ s = (a δ s).bind fun x s1 => match x with | .bl true => b δ s1 | .bl false => .ok (.bl false) s1 | _ => .stk := id rfl
@[simp] theorem v_eOr (a b : E) (δ : Sl) (s : Sto) : eOr a b δ s = (a δ s).bind fun x s1 => match x with | .bl true => .ok (.bl true) s1 | .bl false => b δ s1 | _ => .stk := id rfl
@[simp] theorem v_eNt (a : E) (δ : Sl) (s : Sto) : eNt a δ s = (a δ s).bind fun x s1 => match x with | .bl k => .ok (.bl !k) s1 | _ => .stk := id rfl
@[simp] theorem v_eIf (t : T) (a b : E) (δ : Sl) (s : Sto) : eIf t a b δ s = (t δ s).bind fun k s1 => if k = true then a δ s1 else b δ s1 := id rfl
@[simp] theorem v_aNil (δ : Sl) (s : Sto) : aNil δ s = .ok [] s := id rfl
@[simp] theorem v_aCons (f : E) (r : As) (δ : Sl) (s : Sto) : aCons f r δ s = (f δ s).bind fun x s1 => (r δ s1).bind fun xs s2 => .ok (x :: xs) s2 := id rfl
@[simp] theorem v_eTup (r : As) (δ : Sl) (s : Sto) : eTup r δ s = (r δ s).bind fun xs s1 => if xs.length ≤ sizeLine then .ok (.tup xs) s1 else .stk := id rfl
@[simp] theorem v_eFz (f : Fr) (δ : Sl) (s : Sto) : eFz f δ s = (f δ s).bind fun xs s1 => .ok (.lst xs) s1 := id rfl
@[simp] theorem v_eNw (f : Fr) (δ : Sl) (s : Sto) : eNw f δ s = (f δ s).bind fun xs s1 => .ok (.ob s1.length) (s1 ++ [.lst xs]) := id rfl
@[simp] theorem v_fLst (r : As) (δ : Sl) (s : Sto) : fLst r δ s = (r δ s).bind fun xs s1 => if xs.length ≤ sizeLine then .ok xs s1 else .stk := id rfl
@[simp] theorem v_fList (f : E) (δ : Sl) (s : Sto) : fList f δ s = (f δ s).bind fun d s1 => match rsv s1 d with | .lst xs => .ok xs s1 | .tup xs => .ok xs s1 | .str x => if x.length ≤ sizeLine then .ok (signs x) s1 else .stk | _ => .stk := id rfl
@[simp] theorem v_sNx (δ : Sl) (s : Sto) : sNx δ s = .nx δ s := id rfl
@[simp] theorem v_sBk (δ : Sl) (s : Sto) : sBk δ s = .bk δ s := id rfl
@[simp] theorem v_sCt (δ : Sl) (s : Sto) : sCt δ s = .ct δ s := id rfl
@[simp] theorem v_sSeq (f g : S) (δ : Sl) (s : Sto) : sSeq f g δ s = (match f δ s with | .nx δ' s' => g δ' s' | r => r) := id rfl
@[simp] theorem v_sRet (f : E) (δ : Sl) (s : Sto) : sRet f δ s = sBind (f δ s) δ fun d s1 => .rt d s1 := id rfl
@[simp] theorem v_sRetN (δ : Sl) (s : Sto) : sRetN δ s = .rt .non s := id rfl
@[simp] theorem v_sIf (t : T) (a b : S) (δ : Sl) (s : Sto) : sIf t a b δ s = sBind (t δ s) δ fun k s1 => if k = true then a δ s1 else b δ s1 := id rfl
@[simp] theorem v_sSet (i : Nat) (f : E) (δ : Sl) (s : Sto) : sSet i f δ s = sBind (f δ s) δ fun d s1 => .nx (δ.set i (some d)) s1 := id rfl
@[simp] theorem v_sAsg (p : Pt) (f : E) (δ : Sl) (s : Sto) : sAsg p f δ s = sBind (f δ s) δ fun d s1 => sBindP p d δ s1 := id rfl
@[simp] theorem v_sFor (it : As) (p : Pt) (b : S) (δ : Sl) (s : Sto) : sFor it p b δ s = sBind (it δ s) δ fun items s1 => forD p b items δ s1 := id rfl
@[simp] theorem v_sAug (i : Nat) (g : B2) (f : E) (δ : Sl) (s : Sto) : sAug i g f δ s = (match δ[i]? with | some (some x) => sBind (f δ s) δ fun y s1 => (match g (rsv s1 x) (rsv s1 y) with | some z => .nx (δ.set i (some z)) s1 | none => .stk) | _ => .stk) := id rfl
@[simp] theorem v_sDrop (f : E) (δ : Sl) (s : Sto) : sDrop f δ s = sBind (f δ s) δ fun _ s1 => .nx δ s1 := id rfl
@[simp] theorem v_sRaise (cn : String) (δ : Sl) (s : Sto) : sRaise cn δ s = .exc ⟨cn, []⟩ δ s := id rfl
@[simp] theorem v_sFrz (i : Nat) (f : S) (δ : Sl) (s : Sto) : sFrz i f δ s = (match δ[i]? with | some (some d) => f (δ.set i (some (frzD s d).1)) (frzD s d).2 | _ => f δ s) := id rfl
@[simp] theorem v_eFrz (f : E) (δ : Sl) (s : Sto) : eFrz f δ s = (f δ s).bind fun d s1 => .ok (frzD s1 d).1 (frzD s1 d).2 := id rfl
@[simp] theorem v_sSetIx (o b e : E) (δ : Sl) (s : Sto) : sSetIx o b e δ s = sBind (e δ s) δ fun d s1 => sBind (o δ s1) δ fun x s2 => sBind (b δ s2) δ fun z s3 => match lsO s3 x, z with
  | some xs, .int k => (match ixN xs.length k with
    | some j => .nx δ (stO s3 x (xs.set j d))
    | none => .stk)
  | _, _ => .stk := id rfl
@[simp] theorem v_eApp (o a : E) (δ : Sl) (s : Sto) : eApp o a δ s = (o δ s).bind fun x s1 => if (lsO s1 x).isSome = true then ((a δ s1).bind fun y s2 => match lsO s2 x with
  | some xs => if xs.length < sizeLine then .ok .non (stO s2 x (xs ++ [y])) else .stk
  | none => .stk) else .stk := id rfl
@[simp] theorem v_ePopAt (o a : E) (δ : Sl) (s : Sto) : ePopAt o a δ s = (o δ s).bind fun x s1 => if (lsO s1 x).isSome = true then ((a δ s1).bind fun y s2 => match lsO s2 x, y with
  | some xs, .int k => if -(2 ^ 63) ≤ k ∧ k < 2 ^ 63 then (match seqIndex? k xs.length with
    | some j => (match xs[j]? with
      | some d => .ok d (stO s2 x (xs.eraseIdx j))
      | none => .stk)
    | none => .stk) else .stk
  | _, _ => .stk) else .stk := id rfl
@[simp] theorem v_nm (i : Nat) (d : D) (δ : Sl) : bindP (.nm i) d δ = some (δ.set i (some d)) := by simp [bindP]
@[simp] theorem v_tp (ps : List Pt) (ds : List D) (δ : Sl) : bindP (.tp ps) (.tup ds) δ = bindPs ps ds δ := by simp [bindP]
@[simp] theorem v_tpl (ps : List Pt) (ds : List D) (δ : Sl) : bindP (.tp ps) (.lst ds) δ = bindPs ps ds δ := by simp [bindP]
@[simp] theorem v_ps0 (δ : Sl) : bindPs [] [] δ = some δ := by simp [bindPs]
@[simp] theorem v_ps1 (p : Pt) (ps : List Pt) (d : D) (ds : List D) (δ : Sl) : bindPs (p :: ps) (d :: ds) δ = (match bindP p d δ with | some δ' => bindPs ps ds δ' | none => none) := by first | (simp only [bindPs]; done) | (simp only [bindPs] <;> rfl)
@[simp] theorem v_sBindP (p : Pt) (d : D) (δ : Sl) (s : Sto) : sBindP p d δ s = (match bindP p d δ with | some δ' => .nx δ' s | none => .stk) := id rfl
@[simp] theorem v_iRange1 (a : As) (δ : Sl) (s : Sto) : iRange1 a δ s = (a δ s).bind fun ds s1 => match ds with | [.int j] => if rngOk j then .ok (rngD 0 j.toNat) s1 else .stk | _ => .stk := id rfl
@[simp] theorem v_iRange2 (a : As) (δ : Sl) (s : Sto) : iRange2 a δ s = (a δ s).bind fun ds s1 => match ds with | [.int i, .int j] => if rngOk i ∧ rngOk j then .ok (rngD i (j - i).toNat) s1 else .stk | _ => .stk := by
  unfold iRange2 rngOk
  congr 1
  funext ds s1
  split <;> simp only [and_assoc]
@[simp] theorem v_iRevR2 (a b : E) (δ : Sl) (s : Sto) : iRevR2 a b δ s = (a δ s).bind fun x s1 => (b δ s1).bind fun y s2 => match x, y with | .int i, .int j => if rngOk i ∧ rngOk j then .ok (rngD i (j - i).toNat).reverse s2 else .stk | _, _ => .stk := by
  unfold iRevR2 rngOk
  congr 1
  funext x s1
  congr 1
  funext y s2
  split <;> simp only [and_assoc]
@[simp] theorem v_iSeq (f : E) (δ : Sl) (s : Sto) : iSeq f δ s = (f δ s).bind fun d s1 => R.ofO (seqOf d) s1 := id rfl
@[simp] theorem v_seqL (xs : List D) : seqOf (.lst xs) = some xs := id rfl
@[simp] theorem v_seqT (xs : List D) : seqOf (.tup xs) = some xs := id rfl
@[simp] theorem v_seqS (x : Str) : seqOf (.str x) = some (signs x) := id rfl
@[simp] theorem v_iEnumD (a : As) (δ : Sl) (s : Sto) : iEnumD a δ s = (a δ s).bind fun ds s1 => match ds with | [.lst xs] => .ok (enumD xs) s1 | _ => .stk := id rfl
@[simp] theorem v_iRevD (a : As) (δ : Sl) (s : Sto) : iRevD a δ s = (a δ s).bind fun ds s1 => match ds with | [.lst xs] => .ok xs.reverse s1 | _ => .stk := id rfl
@[simp] theorem v_iZipD (a : As) (δ : Sl) (s : Sto) : iZipD a δ s = (a δ s).bind fun ds s1 => match ds with | [.lst xs, .lst ys] => .ok (zipD xs ys) s1 | [.tup xs, .tup ys] => .ok (zipD xs ys) s1 | _ => .stk := id rfl
@[simp] theorem v_eSl (a : E) (lo hi : Os) (δ : Sl) (s : Sto) : eSl a lo hi δ s = (a δ s).bind fun x s1 => (lo δ s1).bind fun l s2 => (hi δ s2).bind fun h s3 => R.ofO (gSl (rsv s3 x) l h) s3 := id rfl
@[simp] theorem v_oNone (δ : Sl) (s : Sto) : oNone δ s = .ok none s := id rfl
@[simp] theorem v_oSome (f : E) (δ : Sl) (s : Sto) : oSome f δ s = (f δ s).bind fun d s1 => match d with | .int i => .ok (some i) s1 | _ => .stk := id rfl
@[simp] theorem v_fLc (it : As) (vs : List Nat) (p : Pt) (c : T) (e : E) (δ : Sl) (s : Sto) : fLc it vs p c e δ s = (it δ s).bind fun items s1 => (lcD p c e (wipeD δ vs) items s1).bind fun xs s2 => if xs.length ≤ sizeLine then .ok xs s2 else .stk := id rfl
@[simp] theorem v_eChain (g g' : B2) (a b c : E) (δ : Sl) (s : Sto) : eChain g g' a b c δ s = (a δ s).bind fun x s1 => (b δ s1).bind fun y s2 => (R.ofO (g (rsv s2 x) (rsv s2 y)) s2).bind fun z s3 => match z with | .bl true => (c δ s3).bind fun w s4 => R.ofO (g' (rsv s4 y) (rsv s4 w)) s4 | .bl false => .ok (.bl false) s3 | _ => .stk := id rfl
@[simp] theorem v_eM1 (g : D → List D → Option D) (o a : E) (δ : Sl) (s : Sto) : eM1 g o a δ s = (o δ s).bind fun x s1 => if isStr x then (a δ s1).bind fun y s2 => R.ofO (g x [rsv s2 y]) s2 else .stk := id rfl
@[simp] theorem v_isStr (x : Str) : isStr (.str x) = true := id rfl
@[simp] theorem v_eBits (f : E) (δ : Sl) (s : Sto) : eBits f δ s = (f δ s).bind fun d s1 => match d with
  | .int i => .ok (.int (Builtin.Int.intBits i : Nat)) s1
  | _ => .stk := id rfl
@[simp] theorem r_non (s : Sto) : rsv s .non = .non := id rfl
@[simp] theorem r_bl (s : Sto) (b : Bool) : rsv s (.bl b) = .bl b := id rfl
@[simp] theorem r_int (s : Sto) (b : Int) : rsv s (.int b) = .int b := id rfl
@[simp] theorem r_str (s : Sto) (b : Str) : rsv s (.str b) = .str b := id rfl
@[simp] theorem r_tup (s : Sto) (b : List D) : rsv s (.tup b) = .tup b := id rfl
@[simp] theorem r_lst (s : Sto) (b : List D) : rsv s (.lst b) = .lst b := id rfl
theorem r_ob {s : Sto} {i : Nat} {xs : List D} (h : s[i]? = some (.lst xs)) : rsv s (.ob i) = .lst xs := by unfold rsv; simp only [h]
theorem lsO_ob {s : Sto} {i : Nat} {xs : List D} (h : s[i]? = some (.lst xs)) : lsO s (.ob i) = some xs := by unfold lsO; simp only [h]
theorem frz_ob {s : Sto} {i : Nat} {xs : List D} (h : s[i]? = some (.lst xs)) : frzD s (.ob i) = (.lst xs, s.set i .gone) := by unfold frzD; simp only [h]
@[simp] theorem stO_ob (s : Sto) (i : Nat) (xs : List D) : stO s (.ob i) xs = s.set i (.lst xs) := id rfl
@[simp] theorem frz_lst (s : Sto) (xs : List D) : frzD s (.lst xs) = (.lst xs, s) := id rfl
@[simp] theorem frz_tup (s : Sto) (xs : List D) : frzD s (.tup xs) = (.tup xs, s) := id rfl
@[simp] theorem frz_int (s : Sto) (x : Int) : frzD s (.int x) = (.int x, s) := id rfl
@[simp] theorem frz_str (s : Sto) (x : Str) : frzD s (.str x) = (.str x, s) := id rfl
@[simp] theorem frz_bl (s : Sto) (x : Bool) : frzD s (.bl x) = (.bl x, s) := id rfl
@[simp] theorem frz_non (s : Sto) : frzD s .non = (.non, s) := id rfl
theorem get_set {s : Sto} {i : Nat} {o u : O} (h : s[i]? = some o) : (s.set i u)[i]? = some u := List.getElem?_set_self (List.getElem?_eq_some_iff.mp h).1
theorem set_same {s : Sto} {i : Nat} {o : O} (h : s[i]? = some o) : s.set i o = s := by
  apply List.ext_getElem?
  intro j
  by_cases z : i = j
  · subst z; rw [get_set h, h]
  · rw [List.getElem?_set_ne z]
@[simp] theorem get_last (s : Sto) (o : O) : (s ++ [o])[s.length]? = some o := by simp
@[simp] theorem v_add (i j : Int) : gAdd (.int i) (.int j) = some (.int (i + j)) := id rfl
@[simp] theorem v_addI (i j : Int) : gAddI (.int i) (.int j) = some (.int (i + j)) := id rfl
@[simp] theorem v_sub (i j : Int) : gSub (.int i) (.int j) = some (.int (i - j)) := id rfl
@[simp] theorem v_mul (i j : Int) : gMul (.int i) (.int j) = if IntMulOk i j then some (.int (i * j)) else none := id rfl
@[simp] theorem v_div (i j : Int) : gDiv (.int i) (.int j) = if divOk j then some (.int (i / j)) else none := id rfl
@[simp] theorem v_mod (i j : Int) : gMod (.int i) (.int j) = if 0 < j then some (.int (i % j)) else none := id rfl
@[simp] theorem v_pow (i j : Int) : gPow (.int i) (.int j) = if powOk i j then some (.int (i ^ j.toNat)) else none := id rfl
@[simp] theorem v_addL (xs ys : List D) : gAdd (.lst xs) (.lst ys) = if xs.length + ys.length ≤ sizeLine then some (.lst (xs ++ ys)) else none := id rfl
@[simp] theorem v_eqB (a b : Bool) : gEq (.bl a) (.bl b) = some (.bl (decide (a = b))) := id rfl
@[simp] theorem v_neB (a b : Bool) : gNe (.bl a) (.bl b) = some (.bl (!decide (a = b))) := id rfl
@[simp] theorem v_gListL (xs : List D) : gList [.lst xs] = some (.lst xs) := id rfl
@[simp] theorem v_gListT (xs : List D) : gList [.tup xs] = some (.lst xs) := id rfl
@[simp] theorem v_gListS (x : Str) : gList [.str x] = if x.length ≤ sizeLine then some (.lst (signs x)) else none := id rfl
@[simp] theorem v_gTupleL (xs : List D) : gTuple [.lst xs] = some (.tup xs) := id rfl
@[simp] theorem v_gTupleT (xs : List D) : gTuple [.tup xs] = some (.tup xs) := id rfl
@[simp] theorem v_gIntI (i : Int) : gInt [.int i] = some (.int i) := id rfl
@[simp] theorem v_gIntB (b : Bool) : gInt [.bl b] = some (.int (if b then 1 else 0)) := id rfl
@[simp] theorem v_gslL (xs : List D) (lo hi : Option Int) : gSl (.lst xs) lo hi = some (.lst (cutD xs lo hi)) := id rfl
@[simp] theorem isN_non : gIsN .non .non = some (.bl true) := id rfl
@[simp] theorem isN_str (x : Str) : gIsN (.str x) .non = some (.bl false) := id rfl
@[simp] theorem isN_tup (x : List D) : gIsN (.tup x) .non = some (.bl false) := id rfl
@[simp] theorem isN_lst (x : List D) : gIsN (.lst x) .non = some (.bl false) := id rfl
@[simp] theorem isN_int (x : Int) : gIsN (.int x) .non = some (.bl false) := id rfl
@[simp] theorem notN_non : gNotN .non .non = some (.bl false) := id rfl
@[simp] theorem notN_str (x : Str) : gNotN (.str x) .non = some (.bl true) := id rfl
@[simp] theorem notN_tup (x : List D) : gNotN (.tup x) .non = some (.bl true) := id rfl
/-- a part of any list -/
def cutL {α : Type} (xs : List α) (lo hi : Option Int) : List α := (xs.drop (HT.sIx xs.length 0 lo)).take (HT.sIx xs.length xs.length hi - HT.sIx xs.length 0 lo)
theorem cutD_map {α : Type} (f : α → D) (xs : List α) (lo hi : Option Int) : cutD (xs.map f) lo hi = (cutL xs lo hi).map f := by
  simp [cutD, cutL, List.map_take, List.map_drop]
@[simp] theorem cutD_ints (xs : List Int) (lo hi : Option Int) : cutD (xs.map D.int) lo hi = (cutL xs lo hi).map D.int := cutD_map _ _ _ _
theorem cutL_sub {α : Type} {xs : List α} {lo hi : Option Int} {x : α} (h : x ∈ cutL xs lo hi) : x ∈ xs := List.mem_of_mem_drop (List.mem_of_mem_take h)
theorem cutL_len {α : Type} (xs : List α) (lo hi : Option Int) : (cutL xs lo hi).length ≤ xs.length := by
  simp only [cutL, List.length_take, List.length_drop]
  omega
theorem cutL_nn {α : Type} (xs : List α) (a b : Nat) : cutL xs (some (a : Int)) (some (b : Int)) = (xs.drop a).take (b - a) := by
  simp only [cutL, HT.sIx_nat]
  by_cases h : a ≤ xs.length
  · rw [Nat.min_eq_left h]
    by_cases h2 : b ≤ xs.length
    · rw [Nat.min_eq_left h2]
    · rw [Nat.min_eq_right (by omega), List.take_of_length_le (by simp), List.take_of_length_le (by simp; omega)]
  · have e : min a xs.length = xs.length := by omega
    rw [e, List.drop_of_length_le (Nat.le_refl _), List.drop_of_length_le (by omega)]
    simp
@[simp] theorem v_lt (i j : Int) : gLt (.int i) (.int j) = some (.bl (decide (i < j))) := id rfl
@[simp] theorem v_le (i j : Int) : gLe (.int i) (.int j) = some (.bl (decide (i ≤ j))) := id rfl
@[simp] theorem v_gt (i j : Int) : gGt (.int i) (.int j) = some (.bl (decide (j < i))) := id rfl
@[simp] theorem v_ge (i j : Int) : gGe (.int i) (.int j) = some (.bl (decide (j ≤ i))) := id rfl
@[simp] theorem v_eqI (i j : Int) : gEq (.int i) (.int j) = some (.bl (decide (i = j))) := id rfl
@[simp] theorem v_neI (i j : Int) : gNe (.int i) (.int j) = some (.bl (!decide (i = j))) := id rfl
@[simp] theorem v_neg (i : Int) : gNeg (.int i) = some (.int (-i)) := id rfl
@[simp] theorem v_lenL (xs : List D) : gLen [.lst xs] = some (.int xs.length) := id rfl
@[simp] theorem v_lenT (xs : List D) : gLen [.tup xs] = some (.int xs.length) := id rfl
@[simp] theorem v_lenS (x : Str) : gLen [.str x] = if x.length ≤ sizeLine then some (.int x.length) else none := id rfl
@[simp] theorem v_min2 (i j : Int) : gMin2 [.int i, .int j] = some (.int (if j < i then j else i)) := id rfl
@[simp] theorem v_max2 (i j : Int) : gMax2 [.int i, .int j] = some (.int (if j > i then j else i)) := id rfl
@[simp] theorem v_ixL (xs : List D) (i : Int) : gIx (.lst xs) (.int i) = atI xs i := id rfl
@[simp] theorem v_ixT (xs : List D) (i : Int) : gIx (.tup xs) (.int i) = atI xs i := id rfl
@[simp] theorem v_revL (xs : List D) : gRev (.lst xs) = some (.lst xs.reverse) := id rfl
@[simp] theorem v_isi (n : String) (d : D) : gIsi n d = (tyN d).map fun t => .bl (isTy t n) := id rfl
@[simp] theorem v_isi2 (n m : String) (d : D) : gIsi2 n m d = (tyN d).map fun t => .bl (isTy t n || isTy t m) := id rfl
@[simp] theorem v_tyI (i : Int) : tyN (.int i) = some "int" := id rfl
@[simp] theorem v_tyB (i : Bool) : tyN (.bl i) = some "bool" := id rfl
@[simp] theorem v_tyS (i : Str) : tyN (.str i) = some "str" := id rfl
@[simp] theorem v_tyT (i : List D) : tyN (.tup i) = some "tuple" := id rfl
@[simp] theorem v_tyL (i : List D) : tyN (.lst i) = some "list" := id rfl
@[simp] theorem v_tyN : tyN .non = some "NoneType" := id rfl
@[simp] theorem v_isTy_NoneTypeNoneType : isTy "NoneType" "NoneType" = true := by decide
@[simp] theorem v_isTy_NoneTypebool : isTy "NoneType" "bool" = false := by decide
@[simp] theorem v_isTy_NoneTypeint : isTy "NoneType" "int" = false := by decide
@[simp] theorem v_isTy_NoneTypestr : isTy "NoneType" "str" = false := by decide
@[simp] theorem v_isTy_NoneTypetuple : isTy "NoneType" "tuple" = false := by decide
@[simp] theorem v_isTy_NoneTypelist : isTy "NoneType" "list" = false := by decide
@[simp] theorem v_isTy_boolNoneType : isTy "bool" "NoneType" = false := by decide
@[simp] theorem v_isTy_boolbool : isTy "bool" "bool" = true := by decide
@[simp] theorem v_isTy_boolint : isTy "bool" "int" = true := by decide
@[simp] theorem v_isTy_boolstr : isTy "bool" "str" = false := by decide
@[simp] theorem v_isTy_booltuple : isTy "bool" "tuple" = false := by decide
@[simp] theorem v_isTy_boollist : isTy "bool" "list" = false := by decide
@[simp] theorem v_isTy_intNoneType : isTy "int" "NoneType" = false := by decide
@[simp] theorem v_isTy_intbool : isTy "int" "bool" = false := by decide
@[simp] theorem v_isTy_intint : isTy "int" "int" = true := by decide
@[simp] theorem v_isTy_intstr : isTy "int" "str" = false := by decide
@[simp] theorem v_isTy_inttuple : isTy "int" "tuple" = false := by decide
@[simp] theorem v_isTy_intlist : isTy "int" "list" = false := by decide
@[simp] theorem v_isTy_strNoneType : isTy "str" "NoneType" = false := by decide
@[simp] theorem v_isTy_strbool : isTy "str" "bool" = false := by decide
@[simp] theorem v_isTy_strint : isTy "str" "int" = false := by decide
@[simp] theorem v_isTy_strstr : isTy "str" "str" = true := by decide
@[simp] theorem v_isTy_strtuple : isTy "str" "tuple" = false := by decide
@[simp] theorem v_isTy_strlist : isTy "str" "list" = false := by decide
@[simp] theorem v_isTy_tupleNoneType : isTy "tuple" "NoneType" = false := by decide
@[simp] theorem v_isTy_tuplebool : isTy "tuple" "bool" = false := by decide
@[simp] theorem v_isTy_tupleint : isTy "tuple" "int" = false := by decide
@[simp] theorem v_isTy_tuplestr : isTy "tuple" "str" = false := by decide
@[simp] theorem v_isTy_tupletuple : isTy "tuple" "tuple" = true := by decide
@[simp] theorem v_isTy_tuplelist : isTy "tuple" "list" = false := by decide
@[simp] theorem v_isTy_listNoneType : isTy "list" "NoneType" = false := by decide
@[simp] theorem v_isTy_listbool : isTy "list" "bool" = false := by decide
@[simp] theorem v_isTy_listint : isTy "list" "int" = false := by decide
@[simp] theorem v_isTy_liststr : isTy "list" "str" = false := by decide
@[simp] theorem v_isTy_listtuple : isTy "list" "tuple" = false := by decide
@[simp] theorem v_isTy_listlist : isTy "list" "list" = true := by decide
theorem small_line {n : Nat} (h : n ≤ 100000) : n ≤ sizeLine := Nat.le_trans h (by decide)
@[simp] theorem v_line0 : (0 : Nat) ≤ sizeLine := Nat.zero_le _
@[simp] theorem v_line1 : (1 : Nat) ≤ sizeLine := by decide
@[simp] theorem v_line2 : (2 : Nat) ≤ sizeLine := by decide
@[simp] theorem v_line3 : (3 : Nat) ≤ sizeLine := by decide
@[simp] theorem v_line4 : (4 : Nat) ≤ sizeLine := by decide
@[simp] theorem v_line5 : (5 : Nat) ≤ sizeLine := by decide
@[simp] theorem v_line6 : (6 : Nat) ≤ sizeLine := by decide
@[simp] theorem v_line7 : (7 : Nat) ≤ sizeLine := by decide
@[simp] theorem v_line8 : (8 : Nat) ≤ sizeLine := by decide
@[simp] theorem v_isB (a b : Bool) : gIsB (.bl a) (.bl b) = some (.bl (decide (a = b))) := id rfl
@[simp] theorem v_notB (a b : Bool) : gNotB (.bl a) (.bl b) = some (.bl (!decide (a = b))) := id rfl
@[simp] theorem v_eqS (a b : Str) : gEq (.str a) (.str b) = some (.bl (decide (a = b))) := id rfl
@[simp] theorem v_neS (a b : Str) : gNe (.str a) (.str b) = some (.bl (!decide (a = b))) := id rfl
@[simp] theorem v_addS (x y : Str) : gAdd (.str x) (.str y) = if x.length + y.length ≤ sizeLine then some (.str (x ++ y)) else none := id rfl
@[simp] theorem v_addT (xs ys : List D) : gAdd (.tup xs) (.tup ys) = if xs.length + ys.length ≤ sizeLine then some (.tup (xs ++ ys)) else none := id rfl
@[simp] theorem v_ixS (z : Str) (i : Int) : gIx (.str z) (.int i) = if z.length ≤ sizeLine then (atI z.cps.toList i).map fun c => .str ⟨#[c]⟩ else none := id rfl

end Gs

/-! G10: equality, items, lists of numbers. -/
namespace Gs
open PySem L2
abbrev iL (xs : List Int) : D := .lst (xs.map D.int)
theorem toPyL_ints : ∀ xs : List Int, toPyL (xs.map D.int) = some (xs.map PyData.int)
  | [] => by simp [toPyL]
  | x :: xs => by simp [toPyL, toPy, toPyL_ints xs]
theorem eqvAll_ints : ∀ xs ys : List Int, PyData.eqvAll (xs.map PyData.int) (ys.map PyData.int) = decide (xs = ys)
  | [], [] => by simp [PyData.eqvAll]
  | [], y :: ys => by simp [PyData.eqvAll]
  | x :: xs, [] => by simp [PyData.eqvAll]
  | x :: xs, y :: ys => by
    rw [List.map_cons, List.map_cons, PyData.eqvAll, eqvAll_ints xs ys, PyData.eqv]
    by_cases h : x = y <;> by_cases h2 : xs = ys <;> simp [h, h2]
theorem canLay_ints : ∀ xs : List Int, PyData.canLayAll0 (xs.map PyData.int) = true
  | [] => by simp [PyData.canLayAll0]
  | x :: xs => by simp [PyData.canLayAll0, PyData.canLay0, canLay_ints xs]
theorem depth_ints : ∀ xs : List Int, PyData.depthAll (xs.map PyData.int) = 0
  | [] => by simp [PyData.depthAll]
  | x :: xs => by simp [PyData.depthAll, PyData.depth, depth_ints xs]
theorem shaped_ints (xs : List Int) : SeqAt.shaped (.list (xs.map PyData.int)) = true := by
  simp [SeqAt.shaped, PyData.canLay0, PyData.depth, canLay_ints, depth_ints]
theorem eqO_L (xs ys : List Int) : eqO (.lst (xs.map D.int)) (.lst (ys.map D.int)) = some (decide (xs = ys)) := by
  have h : eqO (.lst (xs.map D.int)) (.lst (ys.map D.int)) = eqPy (.lst (xs.map D.int)) (.lst (ys.map D.int)) := by simp [eqO]
  rw [h]
  simp [eqPy, toPy, toPyL_ints, shaped_ints, PyData.eqv, eqvAll_ints]
@[simp] theorem v_eqL (xs ys : List Int) : gEq (.lst (xs.map D.int)) (.lst (ys.map D.int)) = some (.bl (decide (xs = ys))) := by simp [gEq, eqO_L]
@[simp] theorem v_neL (xs ys : List Int) : gNe (.lst (xs.map D.int)) (.lst (ys.map D.int)) = some (.bl (!decide (xs = ys))) := by simp [gNe, eqO_L]
@[simp] theorem v_eqL0 (xs : List Int) : gEq (.lst (xs.map D.int)) (.lst []) = some (.bl (decide (xs = []))) := v_eqL xs []
@[simp] theorem v_neL0 (xs : List Int) : gNe (.lst (xs.map D.int)) (.lst []) = some (.bl (!decide (xs = []))) := v_neL xs []
@[simp] theorem v_at0 (a : D) (l : List D) : atI (a :: l) 0 = some a := atI_ofNat (a :: l) (j := 0) (by simp)
@[simp] theorem v_at1 (a b : D) (l : List D) : atI (a :: b :: l) 1 = some b := atI_ofNat (a :: b :: l) (j := 1) (by simp)
@[simp] theorem v_at2 (a b c : D) (l : List D) : atI (a :: b :: c :: l) 2 = some c := atI_ofNat (a :: b :: c :: l) (j := 2) (by simp)
@[simp] theorem v_at3 (a b c d : D) (l : List D) : atI (a :: b :: c :: d :: l) 3 = some d := atI_ofNat (a :: b :: c :: d :: l) (j := 3) (by simp)
theorem eqO_T2 (a b c d : Int) : eqO (.tup [.int a, .int b]) (.tup [.int c, .int d]) = some (decide (a = c ∧ b = d)) := by
  have h : eqO (.tup [.int a, .int b]) (.tup [.int c, .int d]) = eqPy (.tup [.int a, .int b]) (.tup [.int c, .int d]) := by simp [eqO]
  rw [h]
  by_cases h1 : a = c <;> by_cases h2 : b = d <;> simp [eqPy, toPy, toPyL, SeqAt.shaped, PyData.canLay0, PyData.canLayAll0, PyData.depth, PyData.depthAll, PyData.eqv, PyData.eqvAll, h1, h2]
@[simp] theorem v_eqT2 (a b c d : Int) : gEq (.tup [.int a, .int b]) (.tup [.int c, .int d]) = some (.bl (decide (a = c ∧ b = d))) := by simp [gEq, eqO_T2]
@[simp] theorem v_neT2 (a b c d : Int) : gNe (.tup [.int a, .int b]) (.tup [.int c, .int d]) = some (.bl (!decide (a = c ∧ b = d))) := by simp [gNe, eqO_T2]
theorem cutL_lo {α : Type} (xs : List α) (a : Nat) : cutL xs (some (a : Int)) none = xs.drop a := by
  simp only [cutL, HT.sIx_nat, HT.sIx_none]
  by_cases h : a ≤ xs.length
  · rw [Nat.min_eq_left h, List.take_of_length_le (by simp)]
  · have e : min a xs.length = xs.length := by omega
    rw [e, List.drop_of_length_le (Nat.le_refl _), List.drop_of_length_le (by omega)]
    simp
theorem cutL_hi {α : Type} (xs : List α) (b : Nat) : cutL xs none (some (b : Int)) = xs.take b := by
  simp only [cutL, HT.sIx_nat, HT.sIx_none, List.drop_zero, Nat.sub_zero]
  by_cases h : b ≤ xs.length
  · rw [Nat.min_eq_left h]
  · rw [Nat.min_eq_right (by omega), List.take_of_length_le (by simp), List.take_of_length_le (by omega)]
/-! == of data -/
def eqk (k : Nat) (d : D) : Prop := ∃ p, toPy d = some p ∧ p.canLay0 = true ∧ p.depth ≤ k
theorem eqk_int (k : Nat) (i : Int) : eqk k (.int i) := ⟨.int i, by simp [toPy], by simp [PyData.canLay0], by simp [PyData.depth]⟩
theorem eqk_str (k : Nat) {z : Str} (h : PyData.canLay0 (.str z) = true) : eqk k (.str z) := ⟨.str z, by simp [toPy], h, by simp [PyData.depth]⟩
theorem eqk_up {k l : Nat} {d : D} (h : eqk k d) (hl : k ≤ l) : eqk l d := by
  obtain ⟨p, h1, h2, h3⟩ := h
  exact ⟨p, h1, h2, Nat.le_trans h3 hl⟩
theorem eqk_tup {k : Nat} {v u : D} (h : eqk k v) (h2 : eqk k u) : eqk (k + 1) (.tup [v, u]) := by
  obtain ⟨p, a1, a2, a3⟩ := h
  obtain ⟨q, b1, b2, b3⟩ := h2
  exact ⟨.tuple [p, q], by simp [toPy, toPyL, a1, b1], by simp [PyData.canLay0, PyData.canLayAll0, a2, b2], by simp [PyData.depth, PyData.depthAll]; omega⟩
theorem eqk_all {k : Nat} : ∀ {xs : List D}, (∀ x ∈ xs, eqk k x) → ∃ ps, toPyL xs = some ps ∧ PyData.canLayAll0 ps = true ∧ PyData.depthAll ps ≤ k
  | [], _ => ⟨[], by simp [toPyL], by simp [PyData.canLayAll0], by simp [PyData.depthAll]⟩
  | x :: xs, h => by
    obtain ⟨p, a1, a2, a3⟩ := h x (by simp)
    obtain ⟨ps, b1, b2, b3⟩ := eqk_all (xs := xs) fun y hy => h y (by simp [hy])
    exact ⟨p :: ps, by simp [toPyL, a1, b1], by simp [PyData.canLayAll0, a2, b2], by simp [PyData.depthAll]; omega⟩
theorem eqk_lst {k : Nat} {xs : List D} (h : ∀ x ∈ xs, eqk k x) : eqk (k + 1) (.lst xs) := by
  obtain ⟨ps, b1, b2, b3⟩ := eqk_all h
  exact ⟨.list ps, by simp [toPy, b1], by simpa [PyData.canLay0] using b2, by simp [PyData.depth]; omega⟩
theorem eqO_self {xs : List D} {k : Nat} (h : eqk k (.lst xs)) (hk : k ≤ 60) : eqO (.lst xs) (.lst xs) = some true := by
  obtain ⟨p, h1, h2, h3⟩ := h
  have e : eqO (.lst xs) (.lst xs) = eqPy (.lst xs) (.lst xs) := by simp [eqO]
  rw [e]
  unfold eqPy
  rw [h1]
  have hs : SeqAt.shaped p = true := by
    simp [SeqAt.shaped, h2]
    omega
  simp [hs, SeqAt.eqv_refl p h2]
theorem eqk_bl (k : Nat) (b : Bool) : eqk k (.bl b) := ⟨.bool b, by simp [toPy], rfl, by simp [PyData.depth]⟩
theorem eqk_tupL {k : Nat} {xs : List D} (h : ∀ x ∈ xs, eqk k x) : eqk (k + 1) (.tup xs) := by
  obtain ⟨ps, b1, b2, b3⟩ := eqk_all h
  exact ⟨.tuple ps, by simp [toPy, b1], by simpa [PyData.canLay0] using b2, by simp [PyData.depth]; omega⟩
theorem eqO_nil {k : Nat} {xs : List D} (h : eqk k (.lst xs)) (hk : k ≤ 60) : eqO (.lst xs) (.lst []) = some (decide (xs = [])) := by
  obtain ⟨p, h1, h2, h3⟩ := h
  have e : eqO (.lst xs) (.lst []) = eqPy (.lst xs) (.lst []) := by simp [eqO]
  rw [e]
  unfold eqPy
  rw [h1]
  have hs : SeqAt.shaped p = true := by
    simp [SeqAt.shaped, h2]
    omega
  have hn : toPy (.lst []) = some (.list []) := by simp [toPy, toPyL]
  have hs2 : SeqAt.shaped (.list []) = true := by simp [SeqAt.shaped, PyData.canLay0, PyData.canLayAll0, PyData.depth, PyData.depthAll]
  rw [hn]
  simp only [hs, hs2, Bool.and_self, if_true]
  simp only [toPy] at h1
  cases xs with
  | nil =>
    simp [toPyL] at h1
    subst h1
    simp [PyData.eqv, PyData.eqvAll]
  | cons x xs =>
    simp only [toPyL] at h1
    cases hx : toPy x with
    | none => rw [hx] at h1; simp at h1
    | some q =>
      cases hy : toPyL xs with
      | none => rw [hx, hy] at h1; simp at h1
      | some qs =>
        rw [hx, hy] at h1
        simp at h1
        subst h1
        simp [PyData.eqv, PyData.eqvAll]
theorem eq_nil {k : Nat} {xs : List D} (h : eqk k (.lst xs)) (hk : k ≤ 60) : gEq (.lst xs) (.lst []) = some (.bl (decide (xs = []))) := by simp [gEq, eqO_nil h hk]

@[simp] theorem eq_non_str (x : Str) : gEq .non (.str x) = some (.bl false) := by simp [gEq, eqO]
@[simp] theorem eq_str_non (x : Str) : gEq (.str x) .non = some (.bl false) := by simp [gEq, eqO]
@[simp] theorem eq_non_non : gEq .non .non = some (.bl true) := by simp [gEq, eqO]
@[simp] theorem v_eq00 : gEq (.lst []) (.lst []) = some (.bl true) := (v_eqL [] []).trans (by simp)
@[simp] theorem v_ne00 : gNe (.lst []) (.lst []) = some (.bl false) := (v_neL [] []).trans (by simp)
/-! what stands in the midst of a store -/
@[simp] theorem get_mid (s0 g : Sto) (o : O) : (s0 ++ o :: g)[s0.length]? = some o := by simp
@[simp] theorem set_mid (s0 g : Sto) (o u : O) : (s0 ++ o :: g).set s0.length u = s0 ++ u :: g := by simp
@[simp] theorem lsO_mid (s0 g : Sto) (xs : List D) : lsO (s0 ++ .lst xs :: g) (.ob s0.length) = some xs := lsO_ob (get_mid _ _ _)
@[simp] theorem rsv_mid (s0 g : Sto) (xs : List D) : rsv (s0 ++ .lst xs :: g) (.ob s0.length) = .lst xs := r_ob (get_mid _ _ _)
@[simp] theorem frz_mid (s0 g : Sto) (xs : List D) : frzD (s0 ++ .lst xs :: g) (.ob s0.length) = (.lst xs, s0 ++ .gone :: g) := by rw [frz_ob (get_mid _ _ _), set_mid]
theorem forL {p : Pt} {body : S} {xs : List Int} {δ : Sl} {s : Sto} (Inv : Nat → Sl → Sto → Prop) (h0 : Inv 0 δ s)
    (hs : ∀ i (h : i < xs.length) δ s, Inv i δ s → ∃ δ1, bindP p (.int xs[i]) δ = some δ1 ∧ ∃ δ2 s2, body δ1 s = .nx δ2 s2 ∧ Inv (i + 1) δ2 s2) : ∃ δ' s', forD p body (xs.map D.int) δ s = .nx δ' s' ∧ Inv xs.length δ' s' := by
  have z := forD_inv (p := p) (body := body) Inv (xs.map D.int) 0 δ s h0 fun i d δ s hd hi => by
    obtain ⟨h1, h2⟩ := List.getElem?_eq_some_iff.mp hd
    rw [List.length_map] at h1
    rw [List.getElem_map] at h2
    subst h2
    rw [Nat.zero_add] at hi ⊢
    exact hs i h1 δ s hi
  rw [Nat.zero_add, List.length_map] at z
  exact z
end Gs

/-! GX: an exception that was caught is kept, as data. -/
namespace L2
open PySem PySem.Spec PyProof.Rows
/-- a thing that stands in the heap, laid within this frame, is tracked from here on -/
theorem Inv.track {X : Cx} {pins : List (Addr × Obj)} {σ : St} {H : Hp} {s : Shared} {a : Addr} {oe : Obj} {vs : Array Value} {o : HO} (J : Inv X pins σ H s) (hg : s.heap.get? a = some oe) (hd : oe.data = .fields vs) (na : H a = none) (n0 : X.s_0.heap.get? a = none) (nL : a ≠ X.env.locals)
    (np : ∀ p ∈ X.pn ++ pins, p.1 ≠ a) (nw : ObjOk X.prog X.w (upd H a o) s.heap a o) : Inv X pins σ (upd H a o) s where
  ok := J.ok
  os := J.os
  bare := J.bare
  base := by
    have ne : ∀ {b : Addr} {u : Obj}, X.s_0.heap.get? b = some u → b ≠ a := fun q z => by rw [z, n0] at q; cases q
    exact ⟨J.base.keep, J.base.slot, fun b u q m x => by rw [upd_ne (ne q)]; exact J.base.free b u q m x, J.base.there,
      fun b xs q => by
        have z := J.base.tups b xs q
        rw [upd_ne (ne_of_none z na)]
        exact z,
      fun b u w q => by
        have z := J.base.frzs b u w q
        rw [upd_ne (ne_of_none z na)]
        exact z,
      fun b ps q => by
        obtain ⟨more, z⟩ := J.base.tbls b ps q
        exact ⟨more, by rw [upd_ne (ne_of_none z na)]; exact z⟩⟩
  loc := J.loc
  cell := J.cell
  free := by rw [upd_ne nL.symm]; exact J.free
  freeC := fun x c e => by
    have ne : c ≠ a := fun z => by
      obtain ⟨v, oc, hoc, hdc⟩ := J.cell x c e
      rw [z, hg] at hoc
      cases hoc
      rw [hd] at hdc
      cases hdc
    rw [upd_ne ne]
    exact J.freeC x c e
  pin := fun p hp => by
    obtain ⟨e1, e2, e3, e4, e5⟩ := J.pin p hp
    exact ⟨e1, by rw [upd_ne (np p hp)]; exact e2, e3, e4, e5⟩
  hok := HOk.laidN J.hok (fun _ _ q => q) na nw
  len := J.len
/-- an exception object of the class cls with the own dict d at a -/
def EvK (cls : Value) (d : Option Addr) (a : Addr) : HO := .ext fun h => ∃ (oe : Obj) (vs : Array Value), h.get? a = some oe ∧ Zc cls d oe ∧ oe.data = .fields vs
theorem evK_ok {P : Program} {w : World} {H : Hp} {h : Heap} {a : Addr} {cls : Value} {d : Option Addr} {oe : Obj} {vs : Array Value} (e : h.get? a = some oe) (z : Zc cls d oe) (q : oe.data = .fields vs) : ObjOk P w H h a (EvK cls d a) :=
  ⟨⟨oe, vs, e, z, q⟩, ⟨oe, e⟩, fun _ _ ⟨o, v, q1, r⟩ k => ⟨o, v, k o q1, r⟩⟩
/-- the ends of a suite, the exception at a tracked behind it -/
def kEnds (i : Nat) (D : Ends) (T : Hp → Hp) : Ends :=
  { nx := fun σ H => D.nx (σ.set i none) (T H), rt := fun v H => D.rt v (T H), bk := fun σ H => D.bk (σ.set i none) (T H), ct := fun σ H => D.ct (σ.set i none) (T H) }
def wKp (K : PySem.W.Frag) (c : Value) (i : Nat) (ts : Addr → Value → Option Addr → TS) (Wo : WX) (D : Ends) : WX := fun cls d σ H => ∃ b, PySem.W.exmOne K cls c = some b ∧
  (b = true → ∀ a, H a = none → ts a cls d (kEnds i D fun H' => upd H' a (EvK cls d a)) (σ.set i (some (.ref a))) H) ∧ (b = false → Wo cls d σ H)
section
variable {X : Cx} {x n : Str} {c : Value} {i : Nat} {body suite : List Stmt} {st₀ : Stmt} {np pos pos' : Pos} {tb : WX → TS} {ts : Addr → Value → Option Addr → TS} {Wo : WX}
theorem ps_try_keep (hs : X.stack = X.env :: X.outer) (hf : X.env.frame = some X.env.locals) (hN : X.N.Nodup) (hi : X.N[i]? = some n) (hln : X.env.kindOf n = some .local) (hx0 : X.ex = []) (hc : Names X x c) (tk : Takes X Wo)
    (hb : ∀ (W : WX) (pn : List (Addr × Obj)) (xe : Value → Shared → Prop), Takes (X.tr pn xe) W → PassesOwn (model X.prog X.w) X.A X.env xe → PSs (X.tr pn xe) body (tb W))
    (hsu : ∀ (a : Addr) (oe : Obj) (cls : Value) (d : Option Addr) (pn : List (Addr × Obj)), Zc cls d oe → (∃ vs, oe.data = .fields vs) → PSs (X.suite a ((a, oe) :: pn)) (st₀ :: suite) (ts a cls d)) :
    PS X (.Try body [.ExceptHandler (some (.Name x np)) (some n) (st₀ :: suite) pos'] [] [] pos) (fun D σ H => tb (wKp X.K c i ts Wo D) D σ H) := by
  refine ⟨fun pins s σ H D I0 hpre => ?_⟩
  have okX := I0.ok
  have frames : X.A.frames = some (X.env :: X.outer) := by rw [okX.frames, hs]
  refine wpAny_Try_except ?_
  have bodyRun := (hb (wKp X.K c i ts Wo D) (X.pn ++ pins) (fun e z1 => wpAny (model X.prog X.w) X.A (noteFrame e X.env) (fun _ z2 => wpAny (model X.prog X.w) X.A (setFlight e none)
      (fun _ z3 => wpAny (model X.prog X.w) X.A (handleBy e X.env [.ExceptHandler (some (.Name x np)) (some n) (st₀ :: suite) pos']) (SP X pins D) X.xe z3) X.xe z2) X.xe z1) (fun u z xx => ?_) PassesOwn.looking).run [] s σ H D (I0.toTry _) hpre
  · refine wpAny_mono bodyRun (fun fl z1 hsp => ?_) (fun _ _ he => he)
    cases fl with
    | next =>
      obtain ⟨σ1, H1, J1, q1⟩ := hsp
      exact wpAny_execs_nil ⟨σ1, H1, J1.ofTry okX, q1⟩
    | brk =>
      obtain ⟨σ1, H1, J1, q1⟩ := hsp
      exact ⟨σ1, H1, J1.ofTry okX, q1⟩
    | cont =>
      obtain ⟨σ1, H1, J1, q1⟩ := hsp
      exact ⟨σ1, H1, J1.ofTry okX, q1⟩
    | ret u =>
      obtain ⟨v1, σ1, H1, J1, r1, q1⟩ := hsp
      exact ⟨v1, σ1, H1, J1.ofTry okX, r1, q1⟩
  · -- what is caught
    obtain ⟨a, B, sI, pins', σc, Hc, cls, d, rfl, Jt, nb, up, sky, na, osE, ag, b, hb1, hyes, hno⟩ := xx
    have J : Inv X pins σc Hc sI := Jt.ofTry okX
    have skyE : Sky B (X.env :: X.outer) a (Zc cls d) X.env.locals z.heap := by rw [← hs]; exact sky
    have nB : B.get? a = none := by rcases skyE with q | q | q <;> exact q.2.1
    show wpAny (model X.prog X.w) X.A (noteFrame (.ref a) X.env) _ _ _
    refine Sky.land Zc.steady frames hf skyE fun hp3 fly3 up3 => ?_
    have K3 : Inv X pins σc Hc { z with heap := hp3 } := J.landed nb fly3.1 (up.trans up3) osE ag
    obtain ⟨oe3, vs3, g3, zc3, d3⟩ := fly3.there
    have notFrame : a ∉ frs (X.env :: X.outer) := fun hm => by
      obtain ⟨_, o', e', hnf⟩ := fly3.2.2.1.mem hm
      rw [g3] at e'
      cases e'
      exact hnf _ d3
    have nL : a ≠ X.env.locals := fun w => notFrame (List.mem_filterMap.mpr ⟨X.env, List.mem_cons_self, by rw [hf, w]⟩)
    have nF : a ∉ X.fs := fun hm => by
      obtain ⟨e, he, q⟩ := List.mem_filterMap.mp hm
      exact notFrame (List.mem_filterMap.mpr ⟨e, List.mem_cons_of_mem _ he, q⟩)
    -- the exception is new
    have nI : sI.heap.get? a = none := by
      cases w : sI.heap.get? a with
      | none => rfl
      | some ob =>
        have w2 := nb a ob w (by rw [hs]; exact notFrame)
        rw [nB] at w2
        cases w2
    have n0 : X.s_0.heap.get? a = none := by
      cases w : X.s_0.heap.get? a with
      | none => rfl
      | some ob =>
        obtain ⟨o', w2⟩ := J.base.there a ob w (by rw [hx0]; simp)
        rw [nI] at w2
        cases w2
    have npin : ∀ p ∈ X.pn ++ pins, p.1 ≠ a := fun p hp w => by
      have w2 := (J.pin p hp).1
      rw [w, nI] at w2
      cases w2
    refine wpAny_handleBy_cons (codeAny_handlers_test ?_) (by intro q; cases q)
    have LT : PySem.W.Looks (model X.prog X.w) hp3 (typeOf (.ref a)) cls := fun A Q E s k q => wpAny_typeOf_ref (k _ _ g3) (by rw [zc3.1]; exact q)
    have LM := PySem.W.exm_one (M := model X.prog X.w) (K3.kIn) LT hb1
    have S3 := K3.suite g3 d3 na nL nF
    have clsNamed : ∀ {Q : Value → Shared → Prop} {E : Value → Shared → Prop}, Q c { z with heap := hp3 } → wpAny (model X.prog X.w) (X.A.mark (some (.ref a))) (eval (.Name x np) X.env) Q E { z with heap := hp3 } := fun {Q E} q => by
      obtain ⟨hgl, hdbg, hm | ⟨hm, hv, hnn⟩⟩ := hc
      · exact ld_glob (X := X.suite a ((a, oe3) :: (X.pn ++ pins))) S3 hgl hm q hdbg
      · exact ld_blt (X := X.suite a ((a, oe3) :: (X.pn ++ pins))) S3 hgl hm hv q hnn hdbg
    refine clsNamed (LM.here ?_)
    cases b with
    | false =>
      show wpAny _ X.A (handleBy (.ref a) X.env []) _ _ _
      refine wpAny_handleBy_nil ?_
      obtain ⟨k1, k2, k3, oe, vs, T, oT, tsl, he, hz, hd, h1, hr⟩ := id fly3
      unfold PySem.passOn
      refine wpAny_bind (wpAny_field he hd h1 ?_)
      rw [if_neg (show ¬ ((Value.ref T == Value.none) = true) from by simp)]
      have fin : wpAny (model X.prog X.w) X.A (setFlight (.ref a) X.env.frame) (fun _ z4 => wpAny (model X.prog X.w) X.A (throw (.ref a) : Sem Flow) (SP X pins D) X.xe z4) X.xe { z with heap := hp3 } := by
        rw [hf]
        refine HandSPX.setFlight_upZ fly3 fun h4 hh4 up4 => wpAny_throw (tk _ _ ?_)
        exact ⟨a, B, sI, pins, σc, Hc, cls, d, rfl, J, nb, (up.trans up3).trans up4, .inr (.inr (by rw [hs]; exact hh4)), na, osE, ag, hno rfl⟩
      first
        | exact wpAny_bind (wpAny_pure (wpAny_bind fin))
        | exact wpAny_bind fin
    | true =>
      refine codeAny_handlers_suite_as ?_
      refine HandSPX.lands_againZ fly3 fun hp4 fly4 up4 => ?_
      have K4 : Inv X pins σc Hc { z with heap := hp4 } := J.landed nb fly4.1 ((up.trans up3).trans up4) osE ag
      obtain ⟨oe4, vs4, g4, zc4, d4⟩ := fly4.there
      have S4 := K4.suite g4 d4 na nL nF
      refine store_ok (X := X.suite a ((a, oe4) :: (X.pn ++ pins))) (v := .ref a) S4 hN hi (.inl hln) rfl (fun z5 S5 => ?_) (.inr hln)
      have run := (hsu a oe4 cls d (X.pn ++ pins) zc4 ⟨_, d4⟩).run [] z5 _ Hc _ S5 (hyes rfl a na)
      refine wpAny_mono run (fun fl z6 hsp => ?_) (fun _ _ w => False.elim w)
      have leave : ∀ {σ6 : St} {H6 : Hp} {Q : Shared → Prop}, Inv (X.suite a ((a, oe4) :: (X.pn ++ pins))) [] σ6 H6 z6 → (∀ z7, Inv X pins (σ6.set i none) (upd H6 a (EvK cls d a)) z7 → Q z7) →
          wpAny (model X.prog X.w) X.A (do bindName X.env n .none; unbindBehindTheSuite X.env n pos') (fun _ z7 => Q z7) X.xe z6 := fun {σ6 H6 Q} S6 hq => by
        obtain ⟨p1, p2, p3, p4, p5⟩ := S6.pin (a, oe4) (by simp)
        have J6 : Inv X pins σ6 H6 z6 := S6.unsuite okX
        have T6 := J6.track p1 d4 p2 n0 nL npin (evK_ok p1 zc4 d4)
        exact gone_ok T6 hN hi hln hq
      cases fl with
      | next =>
        obtain ⟨σ6, H6, S6, q6⟩ := hsp
        exact leave S6 fun z7 J7 => ⟨_, _, J7, q6⟩
      | brk =>
        obtain ⟨σ6, H6, S6, q6⟩ := hsp
        exact leave S6 fun z7 J7 => ⟨_, _, J7, q6⟩
      | cont =>
        obtain ⟨σ6, H6, S6, q6⟩ := hsp
        exact leave S6 fun z7 J7 => ⟨_, _, J7, q6⟩
      | ret u =>
        obtain ⟨v6, σ6, H6, S6, r6, q6⟩ := hsp
        exact leave S6 fun z7 J7 => ⟨_, _, _, J7, r6, q6⟩
end
end L2

/-! GY: try .. except C as e: x = e; isinstance of what may be an exception. -/
namespace Gs
open PySem L2
theorem RE.wish2 {K : PySem.W.Frag} {v0 : Vw} {ct : String → Addr} {W W' : WX} {σ : L2.St} {δ : Sl} {v : Vw} (r : RE K ⟨v0, ct, W⟩ σ δ v) : RE K ⟨v0, ct, W'⟩ σ δ v := ⟨r.le, r.sr, r.len, r.sl⟩
/-- which classes the clause takes: by pairs -/
def XT (K : PySem.W.Frag) (ct : String → Addr) (c : Addr) (t : String → Option Bool) : Prop := ∀ s b, t s = some b → PySem.W.exmOne K (.ref (ct s)) (.ref c) = some b
theorem xt_sub {K : PySem.W.Frag} {ct : String → Addr} {c : Addr} (hb : PySem.W.subIn K (.ref c) (.type "BaseException") = some true) (hd : PySem.W.hasDictIn K c = true) (ht : PySem.W.typeIn K (.ref c) = some (.type "type")) {s : String} {b : Bool} (h : PySem.W.subIn K (.ref (ct s)) (.ref c) = some b) :
    PySem.W.exmOne K (.ref (ct s)) (.ref c) = some b := PySem.W.exm_ref hb hd ht h
def sTryK (t : String → Option Bool) (i j : Nat) (fb : S) : S := fun δ s => match fb δ s with
  | .exc e δ' s' => if e.fs.isEmpty = true then (match t e.cls with
    | some true => .nx (((δ'.set i none).set j (some (.ev e.cls [] []))).set i none) s'
    | some false => .exc e δ' s'
    | none => .stk) else .stk
  | r => r
section
variable {X : Cx} {C : Cc}
theorem ss_try_keep {x n : Str} {c : Addr} {t : String → Option Bool} {i j : Nat} {body suite : List Stmt} {b₀ : Stmt} {np pos' pos : Pos} {fb : S} (hs : X.stack = X.env :: X.outer) (hf : X.env.frame = some X.env.locals) (hN : X.N.Nodup) (hi : X.N[i]? = some n) (hln : X.env.kindOf n = some .local) (hx0 : X.ex = [])
    (hc : Names X x (.ref c)) (tk : Takes X C.W) (ht : XT X.K C.ct c t)
    (hb : ∀ (W : WX) (pn : List (Addr × Obj)) (xe : Value → Shared → Prop), Takes (X.tr pn xe) W → PassesOwn (model X.prog X.w) X.A X.env xe → SSs (X.tr pn xe) { C with W := W } body fb)
    (hsu : ∀ (a : Addr) (oe : Obj) (pn : List (Addr × Obj)), PSs (X.suite a ((a, oe) :: pn)) (b₀ :: suite) (fun Dn σ H => ∃ v, σ[i]? = some (some v) ∧ Dn.nx (σ.set j (some v)) H)) :
    SS X C (.Try body [.ExceptHandler (some (.Name x np)) (some n) (b₀ :: suite) pos'] [] [] pos) (sTryK t i j fb) := by
  refine ⟨fun pins s σ H Dn I h => ?_⟩
  have hiN : i < X.N.length := (List.getElem?_eq_some_iff.mp hi).1
  refine (ps_try_keep (tb := fun W => liftS X.K { C with W := W } fb) (ts := fun a cls d => fun Dn σ H => (∃ σ0 : L2.St, σ = List.set σ0 i (some (.ref a))) ∧ Dn.nx (σ.set j (some (.ref a))) H)
    hs hf hN hi hln hx0 hc tk hb fun a oe cls d pn hz hfl => ⟨fun pins s σ H Dn I hh => by
      obtain ⟨⟨σ0, rfl⟩, h2⟩ := hh
      have hl : (List.set σ0 i (some (V.ref a))).length = X.N.length := I.len
      rw [List.length_set] at hl
      exact (hsu a oe pn).run pins s _ H Dn I ⟨.ref a, List.getElem?_set_self (by omega), h2⟩⟩).run pins s σ H Dn I ?_
  have hσ : σ.length = X.N.length := I.len
  obtain ⟨δ, v, re, eH, h⟩ := h
  refine ⟨δ, v, re.wish2, eH, ?_⟩
  unfold sTryK at h
  cases e : fb δ v.st with
  | nx δ' s' => rw [e] at h; exact fun σ' v' re l es => h σ' v' re.wish2 l es
  | bk δ' s' => rw [e] at h; exact fun σ' v' re l es => h σ' v' re.wish2 l es
  | ct δ' s' => rw [e] at h; exact fun σ' v' re l es => h σ' v' re.wish2 l es
  | rt d s' => rw [e] at h; exact h
  | stk => rw [e] at h; exact h.elim
  | exc ex δ' s' =>
    rw [e] at h
    simp only at h
    intro cls dd σ' v' re' l' es rx
    split at h
    · rename_i hfs
      have hfs' : ex.fs = [] := List.isEmpty_iff.mp hfs
      have hdd : dd = none := rx.2.elim (fun z => z.2) fun z => absurd hfs' z.1
      cases q : t ex.cls with
      | none => rw [q] at h; exact h.elim
      | some bb =>
        rw [q] at h
        refine ⟨bb, by rw [rx.1]; exact ht _ _ q, fun hb => ?_, fun hb => ?_⟩
        · subst hb
          intro a ha
          simp only at h
          subst hdd
          refine ⟨⟨σ', rfl⟩, ?_⟩
          obtain ⟨l2, s2⟩ := new_ok (o := EvO cls none a) re'.sr ha
          have rep : Rep X.K C.ct (v'.new a (EvO cls none a)).G v'.m (.ev ex.cls [] []) (.ref a) := .ev0 (by rw [← rx.1]; exact upd_same)
          exact h _ (v'.new a (EvO cls none a)) (((((re'.setU i (some (.ref a))).step l2 s2).setV j rep).setU i none)).wish2 (l'.trans l2) es
        · subst hb
          exact h cls dd σ' v' re'.wish2 l' es rx
    · exact h.elim
end
/-! isinstance -/
/-- what is known of a class that is asked for: of None, of the classes that are raised -/
structure EI (K : PySem.W.Frag) (ct : String → Addr) (tb : String → Option Bool) (cv : Value) : Prop where
  non : PySem.W.kitOne K (.type "NoneType") cv = some false
  ev : ∀ c b, tb c = some b → ExcC K (ct c) ∧ PySem.W.kitOne K (.ref (ct c)) cv = some b
def rIsEv (K : PySem.W.Frag) : List V → Hp → VK → Prop := fun xs H Q => ∃ (a D : Addr) (c : V) (cv : Value) (b : Bool), xs = [.ref a, c] ∧ ClsV c cv ∧ H a = some (EvO (.ref D) none a) ∧ ExcC K D ∧ PySem.W.kitOne K (.ref D) cv = some b ∧ Q (.bl b) H
section
variable {X : Cx} {C : Cc}
theorem call_isEv : CallR X (.builtin "isinstance") (rIsEv X.K) := by
  intro pins s σ H xs us Q I r h
  obtain ⟨a, D, c, cv, b, rfl, hcv, hH, EC, e, q⟩ := h
  cases r with
  | cons rx rr =>
    cases rr with
    | cons rt rr =>
      cases rr
      cases rx
      have ec := hcv.eq rt
      subst ec
      obtain ⟨⟨oe, vs, hget, hz, hv⟩, _⟩ := (show ObjOk X.prog X.w H s.heap a (EvO (.ref D) none a) from I.hok a _ hH)
      have J : PySem.W.InstAt s.heap a oe D none := by
        obtain ⟨oc, od, oda, osl⟩ := oe
        obtain ⟨z1, z2⟩ := hz
        dsimp only at z1 z2 hv
        subst z1 z2 hv
        exact ⟨hget, rfl, rfl, trivial⟩
      exact PySem.W.kia_one (PySem.W.handS_kitx_exc EC.hg EC.hk EC.hs EC.hd EC.ha EC.hn EC.ht EC.hm) I.kIn J e (fun z => nomatch z) fun tk => ⟨.bl b, H, I.kept (t' := tk) fun _ _ z => z, rfl, q⟩
theorem call_isU : CallR X (.builtin "isinstance") (fun xs H Q => rIsi X.K xs H Q ∨ rIsEv X.K xs H Q) := fun pins s σ H xs us Q I r h =>
  h.elim (call_isi pins s σ H xs us Q I r) (call_isEv pins s σ H xs us Q I r)
def gIsC (tb : String → Option Bool) : B1
  | .non => some (.bl false)
  | .ev c [] [] => (tb c).map .bl
  | _ => none
theorem se_isC {a : Expr} {fa : E} {pf pn pos : Pos} {nx : Str} {cV : V} {cv : Value} {tb : String → Option Bool} (ha : SE X C a fa) (hg : Gl X "isinstance") (hm : X.mg "isinstance" = none) (hc : PE X (.Name nx pn) (tC cV)) (hk : ClsV cV cv) (hE : EI X.K C.ct tb cv)
    (hvi : bootBuiltins "isinstance" = some (.builtin "isinstance") := by decide +kernel)
    (hs : starEach [a, .Name nx pn] X.env = (false, eval a X.env) :: starEach [.Name nx pn] X.env := by rfl) (hpl : (backTo pos (starEach [.Name nx pn] X.env)).any (·.1) = false := by rfl)
    (hs2 : starEach [.Name nx pn] X.env = (false, eval (.Name nx pn) X.env) :: starEach [] X.env := by rfl) :
    SE X C (.Call (.Name "isinstance" pf) [a, .Name nx pn] [] pos) (eUn (gIsC tb) fa) :=
  pe_weak (pe_callB call_isU hg hm hvi (pa_cons ha (pa_cons hc pa_nil hs2) hs) (by decide) (by decide) hs hpl) fun σ H Q h => by
    obtain ⟨δ, v8, re, eH, h1⟩ := lift_un h
    refine ⟨δ, v8, re, eH, on_mono h1 fun d x v1 l1 s1 r1 h2 => ?_⟩
    obtain ⟨v2, dx, d2, eH2, sr, e, r2, h2⟩ := h2
    rw [← eH2]
    cases r2 with
    | non =>
      simp only [gIsC, Option.some.injEq] at e
      subst e
      exact .inl ⟨.non, cV, .type "NoneType", cv, false, rfl, hk, .base .non, hE.non, h2 _ v2 .refl sr rfl (.bl _)⟩
    | @ev a0 c ks0 ds0 r3 =>
      cases r3 with
      | ev0 hG =>
        simp only [gIsC] at e
        cases q : tb c with
        | none => rw [q] at e; exact nomatch e
        | some b =>
          rw [q] at e
          simp only [Option.map_some, Option.some.injEq] at e
          subst e
          obtain ⟨h3, h4⟩ := hE.ev c b q
          exact .inr ⟨a0, C.ct c, cV, cv, b, rfl, hk, sr.sub _ _ hG, h3, h4, h2 _ v2 .refl sr rfl (.bl _)⟩
      | ev n hG hG2 hl hr =>
        cases ks0 with
        | nil => exact absurd rfl n
        | cons k ks => simp only [gIsC, reduceCtorEq] at e
    | _ => simp only [gIsC, reduceCtorEq] at e
end
@[simp] theorem v_sTryK (t : String → Option Bool) (i j : Nat) (fb : S) (δ : Sl) (s : Sto) : sTryK t i j fb δ s = (match fb δ s with
  | .exc e δ' s' => if e.fs.isEmpty = true then (match t e.cls with
    | some true => .nx (((δ'.set i none).set j (some (.ev e.cls [] []))).set i none) s'
    | some false => .exc e δ' s'
    | none => .stk) else .stk
  | r => r) := id rfl
@[simp] theorem v_isC_non (tb : String → Option Bool) : gIsC tb .non = some (.bl false) := id rfl
@[simp] theorem v_isC_ev (tb : String → Option Bool) (c : String) : gIsC tb (.ev c [] []) = (tb c).map .bl := id rfl
@[simp] theorem isN_ev (c : String) (ks : List Str) (ds : List D) : gIsN (.ev c ks ds) .non = some (.bl false) := id rfl
@[simp] theorem notN_ev (c : String) (ks : List Str) (ds : List D) : gNotN (.ev c ks ds) .non = some (.bl true) := id rfl
@[simp] theorem r_ev (s : Sto) (c : String) (ks : List Str) (ds : List D) : rsv s (.ev c ks ds) = .ev c ks ds := id rfl
end Gs

/-! GZ: a call that only looks at the lists of the store; clear; xs[::-1] as a new list. -/
namespace Gs
open PySem L2
def gones (n : Nat) : Sto := List.replicate n .gone
/-- the frozen look of a datum's top -/
def lokD (s : Sto) : D → D
  | .ob i => match s[i]? with
    | some (.lst xs) => .lst xs
    | _ => .ob i
  | d => d
def scal : D → Bool
  | .non => true
  | .bl _ => true
  | .int _ => true
  | .str _ => true
  | _ => false
/-- b is a list of the store's -/
def Vw.isL (v : Vw) (b : Addr) : Prop := ∃ (i : Nat) (xs : List D), v.st[i]? = some (.lst xs) ∧ v.m i = some b
open Classical in
noncomputable def Vw.lookG (v : Vw) : Hp := fun b => if v.isL b then v.H b else v.G b
open Classical in
noncomputable def lessG (v : Vw) (G : Hp) : Hp := fun b => if v.isL b then none else G b
section
variable {K : PySem.W.Frag} {ct : String → Addr} {v : Vw}
theorem SR.isL_at (s : SR K ct v) {b : Addr} (h : v.isL b) : v.G b = none ∧ ∃ vs, v.H b = some (.lst vs) := by
  obtain ⟨i, xs, e, em⟩ := h
  obtain ⟨a, em', g, vs, hh, _⟩ := s.obj i _ e rfl
  rw [em] at em'
  cases em'
  exact ⟨g, vs, hh⟩
theorem lookG_same (s : SR K ct v) : Same v.G v.lookG := fun b u q => by
  unfold Vw.lookG
  rw [if_neg fun z => by rw [(s.isL_at z).1] at q; cases q]
  exact q
theorem gones_get {n i : Nat} {o : O} (h : (gones n)[i]? = some o) : o = .gone := by
  unfold gones at h
  rw [List.getElem?_replicate] at h
  split at h
  · exact (Option.some.inj h).symm
  · cases h
theorem look_ok (s : SR K ct v) : SR K ct ⟨v.lookG, v.H, v.m, gones v.st.length⟩ where
  sub := fun b u q => by
    have q' : v.lookG b = some u := q
    unfold Vw.lookG at q'
    split at q'
    · exact q'
    · exact s.sub b u q'
  dom := fun i hi => s.dom i (by simpa [gones] using hi)
  obj := fun i o e l => by rw [gones_get e] at l; cases l
  inj := fun i j o u a e _ l _ _ _ => by rw [gones_get e] at l; cases l
  fk := fun i kvs e => by have z := gones_get e; cases z
theorem look_rep (s : SR K ct v) {d : D} {x : V} (r : Rep K ct v.G v.m d x) : Rep K ct v.lookG v.m (lokD v.st d) x := by
  unfold lokD
  split
  · rename_i i
    split
    · rename_i xs e
      cases r with
      | @ob _ _ _ a em =>
        obtain ⟨a', em', g, vs, hh, rr⟩ := s.obj i _ e rfl
        rw [em] at em'
        cases em'
        have : v.lookG a = some (.lst vs) := by
          unfold Vw.lookG
          rw [if_pos ⟨i, xs, e, em⟩]
          exact hh
        exact .lst (SqL.of this) (rr.mono (lookG_same s) .refl)
    · exact r.mono (lookG_same s) .refl
  · exact r.mono (lookG_same s) .refl
theorem look_repL (s : SR K ct v) : ∀ {ds : List D} {xs : List V}, RepL K ct v.G v.m ds xs → RepL K ct v.lookG v.m (ds.map (lokD v.st)) xs
  | _, _, .nil => .nil
  | _, _, .cons h r => .cons (look_rep s h) (look_repL s r)
/-- behind the look the lists are the store's again -/
theorem thaw_ok (s : SR K ct v) {v' : Vw} (l : Le ⟨v.lookG, v.H, v.m, gones v.st.length⟩ v') (s' : SR K ct v') {k : Nat} (e : v'.st = gones k) (hk : v.st.length ≤ k) :
    Le v ⟨lessG v v'.G, v'.H, v'.m, v.st ++ gones (k - v.st.length)⟩ ∧ SR K ct ⟨lessG v v'.G, v'.H, v'.m, v.st ++ gones (k - v.st.length)⟩ := by
  have none' : ∀ b, ¬ (Vw.mk v.lookG v.H v.m (gones v.st.length)).owns b := fun b ⟨i, o, a, eo, lv, _⟩ => by rw [gones_get eo] at lv; cases lv
  have hH : Same v.H v'.H := fun b u q => l.h b u q (none' b)
  have hG : Same v.G (lessG v v'.G) := fun b u q => by
    unfold lessG
    rw [if_neg fun z => by rw [(s.isL_at z).1] at q; cases q]
    exact l.g b u (lookG_same s b u q)
  have gN : ∀ {b : Addr} {u : HO}, v.G b = none → v.H b = some u → lessG v v'.G b = none := fun {b u} g h => by
    unfold lessG
    split
    · rfl
    · rename_i nl
      cases z : v'.G b with
      | none => rfl
      | some w =>
        rcases l.nw b (by rw [z]; exact fun y => nomatch y) with y | y | y
        · exfalso
          have y' : v.lookG b ≠ none := y
          unfold Vw.lookG at y'
          rw [if_neg nl] at y'
          exact y' g
        · have y' : v.H b = none := y
          rw [h] at y'
          cases y'
        · exact absurd y (none' b)
  have get : ∀ {i : Nat} {o : O}, (v.st ++ gones (k - v.st.length))[i]? = some o → o.live = true → v.st[i]? = some o := fun {i o} eo lv => by
    by_cases z : i < v.st.length
    · rwa [List.getElem?_append_left z] at eo
    · rw [List.getElem?_append_right (Nat.not_lt.mp z)] at eo
      rw [gones_get eo] at lv
      cases lv
  refine ⟨⟨hG, l.m, fun b u q _ => hH b u q, fun b q => ?_, fun b ⟨i, o, a, eo, lv, em, q⟩ => ?_, l.al⟩, fun b u q => ?_, fun i hi => ?_, fun i o eo lv => ?_, fun i j o u a e1 e2 l1 l2 m1 m2 => ?_, fun i kvs e9 => ?_⟩
  · have q' : lessG v v'.G b ≠ none := q
    unfold lessG at q'
    split at q'
    · exact absurd rfl q'
    · rename_i nl
      rcases l.nw b q' with y | y | y
      · have y' : v.lookG b ≠ none := y
        unfold Vw.lookG at y'
        rw [if_neg nl] at y'
        exact .inl y'
      · exact .inr (.inl y)
      · exact absurd y (none' b)
  · have eo' := get eo lv
    obtain ⟨a0, em0, g0, r0⟩ := s.obj i o eo' lv
    obtain ⟨_, w, hw, _⟩ := s.obj_ne eo' lv em0
    have em' : v'.m i = some a := em
    rw [l.m i a0 em0] at em'
    cases em'
    refine .inl ⟨i, o, a, eo', lv, em0, q.imp id fun ⟨C, fs, z⟩ => ⟨C, fs, ?_⟩⟩
    have z' : v'.H a = some (.ins C b fs) := z
    rw [hH _ _ hw] at z'
    rw [hw]
    exact z'
  · have q' : lessG v v'.G b = some u := q
    unfold lessG at q'
    split at q'
    · cases q'
    · exact s'.sub b u q'
  · have hi' : v.st.length + (k - v.st.length) ≤ i := by simpa [gones] using hi
    exact s'.dom i (by rw [e]; simp [gones]; omega)
  · have eo' := get eo lv
    obtain ⟨a0, em0, g0, r0⟩ := s.obj i o eo' lv
    obtain ⟨_, w, hw, _⟩ := s.obj_ne eo' lv em0
    exact ⟨a0, l.m i a0 em0, gN g0 hw, r0.mono' (v := v) hG l.m ((hH _ _ hw).trans hw.symm) fun C dx fs _ q1 q2 => ⟨(hH _ _ q1).trans q1.symm, gN q2 q1⟩⟩
  · have e1' := get e1 l1
    have e2' := get e2 l2
    obtain ⟨a1, em1, _⟩ := s.obj i o e1' l1
    obtain ⟨a2, em2, _⟩ := s.obj j u e2' l2
    have m1' : v'.m i = some a := m1
    have m2' : v'.m j = some a := m2
    rw [l.m i a1 em1] at m1'
    rw [l.m j a2 em2] at m2'
    cases m1'
    cases m2'
    exact s.inj i j o u a e1' e2' l1 l2 em1 em2
  · have e9' : (v.st ++ gones (k - v.st.length))[i]? = some (.fK kvs) := e9
    by_cases z : i < v.st.length
    · rw [List.getElem?_append_left z] at e9'
      exact FkR.mono (v := v) (v' := ⟨lessG v v'.G, v'.H, v'.m, v.st ++ gones (k - v.st.length)⟩) hG l.m (s.fk i kvs e9')
    · rw [List.getElem?_append_right (Nat.not_lt.mp z)] at e9'
      have z2 := gones_get e9'
      cases z2
end
open Classical in
noncomputable def thawR (s : Sto) : R D → R D
  | .ok d s2 => if scal d = true ∧ s.length ≤ s2.length ∧ s2 = gones s2.length then .ok d (s ++ gones (s2.length - s.length)) else .stk
  | _ => .stk
/-- a call that looks at the lists of the store, and tells a number, a truth, a text or None -/
noncomputable def eCallB (F : List D → Sto → R D) (a : As) : E := fun δ s => (a δ s).bind fun ds s1 => thawR s1 (F (ds.map (lokD s1)) (gones s1.length))
section
variable {X : Cx} {C : Cc} {pos p : Pos} {x : Str} {e : Expr} {es : List Expr} {fa : As} {k n : Nat} {f : Addr} {fd : FuncData} {ps : List Str} {F : List D → Sto → R D}
theorem se_callBr (hF : FnOk X.prog X.w X.K X.mg X.base (L2.CX X.prog X.w) k f fd ps (spG X.K C.ct n F)) (hr : Room k X.A) (tk : Takes X C.W) (hg : Gl X x) (hm : X.mg x = some (.ref f)) (hk : PySem.W.keepIn X.K (.ref f) = true) (hb : Binds X.K fd ps [])
    (ha : SA X C (e :: es) fa) (hl : LenA fa n) (hdb : (x == ("__debug__" : Str)) = false := by decide) (he : starEach (e :: es) X.env = (false, eval e X.env) :: starEach es X.env := by rfl) (hpl : (backTo pos (starEach es X.env)).any (·.1) = false := by rfl) :
    SE X C (.Call (.Name x p) (e :: es) [] pos) (eCallB F fa) :=
  pe_weak (pe_callS hF hr hg hm hk hb (fun σ => passAt tk σ) ha hdb he hpl) fun σ H Q ⟨δ, v, re, eH, h⟩ => ⟨δ, v, re, eH, on_mono (on_eq (on_bind h)) fun ds vs v1 l1 s1 r1 h1 => by
    obtain ⟨h1, s, q⟩ := h1
    refine ⟨⟨v1.lookG, v1.H, v1.m, gones v1.st.length⟩, ds.map (lokD v1.st), rfl, look_ok s1, by rw [List.length_map]; exact hl _ _ _ _ q, look_repL s1 r1, ?_⟩
    show match F (ds.map (lokD v1.st)) (gones v1.st.length) with
      | .ok d s => _
      | .exc e s => _
      | .stk => _
    unfold thawR at h1
    cases z : F (ds.map (lokD v1.st)) (gones v1.st.length) with
    | stk => rw [z] at h1; exact h1.elim
    | exc e2 s2 => rw [z] at h1; exact h1.elim
    | ok d s2 =>
      rw [z] at h1
      simp only at h1
      split at h1
      · rename_i hz
        obtain ⟨h3, h4, h5⟩ := hz
        intro x2 v' l' s' es r'
        obtain ⟨l2, s3⟩ := thaw_ok (k := s2.length) s1 l' s' (by rw [es]; exact h5) h4
        have rep : ∀ G m, Rep X.K C.ct G m d x2 := by
          cases r' <;> first
            | exact fun G m => .non
            | exact fun G m => .bl _
            | exact fun G m => .int _
            | exact fun G m => .str _
            | (simp only [scal, Bool.false_eq_true] at h3)
        exact h1 x2 ⟨lessG v1 v'.G, v'.H, v'.m, v1.st ++ gones (s2.length - v1.st.length)⟩ l2 s3 rfl (rep _ _)
      · exact h1.elim⟩
/-- o.clear() -/
def eClr (o : E) : E := fun δ s => (o δ s).bind fun x s1 => if (lsO s1 x).isSome = true then .ok .non (stO s1 x []) else .stk
theorem se_clr {o : Expr} {fo : E} {p2 p3 : Pos} (ho : SE X C o fo) (hbase : attributeBase o "clear" X.env (eval o X.env) = eval o X.env := by rfl) (hline : (p2.endLine == p3.line) = true := by rfl) :
    SE X C (.Call (.Attribute o "clear" p2) [] [] p3) (eClr fo) :=
  pe_weak (pe_bm0 PySem.F.plainAttrs_list PySem.F.slot_list_clear PySem.F.type_list_clear mt_clear ho hbase hline) fun σ H Q ⟨δ, v, re, eH, h⟩ => by
    refine ⟨δ, v, re, eH, on_mono (on_bind h) fun d x v1 l1 s1 r1 h1 => ?_⟩
    split at h1
    · rename_i hs
      obtain ⟨xs0, e0⟩ := isSome_of hs
      obtain ⟨i, p, vs0, rfl, rfl, em, q0, hh0, _⟩ := lsO_at s1 r1 e0
      obtain ⟨l3, s3⟩ := stO_ok s1 em q0 (ys := []) (us := []) .nil
      exact ⟨.inl ⟨rfl, vs0, SqL.of hh0⟩, p, vs0, rfl, rfl, hh0, h1 .non (v1.put i p (.lst []) (.lst [])) l3 s3 rfl .non⟩
    · exact h1.elim
/-- xs[::-1], a new list -/
def fRev (f : E) : Fr := fun δ s => (f δ s).bind fun d s1 => match rsv s1 d with
  | .lst xs => .ok xs.reverse s1
  | _ => .stk
theorem sf_rev {a : Expr} {fa : E} {k : Nat} {p1 p3 p4 : Pos} (ha : SE X C a fa) : SF X C (.Subscript a (.Slice none none (some (.UnaryOp .USub (.Constant (.int 1) k p1) p3)) p4) pos) (fRev fa) :=
  pe_weak (pe_revL ha) fun σ H Q ⟨δ, v, re, eH, h⟩ =>
  ⟨δ, v, re, eH, on_mono (onF_bind h) fun d x v1 l1 s1 r1 h1 => by
    have t := r1.top s1
    cases z : rsv v1.st d with
    | lst xs =>
      rw [z] at h1 t
      cases t with
      | @lst a vs _ p q =>
        refine ⟨a, vs, rfl, p, fun c hc => ?_⟩
        obtain ⟨l2, s2, no⟩ := newH (u := .lst vs.reverse) s1 hc
        exact h1 c vs.reverse ⟨v1.G, upd v1.H c (.lst vs.reverse), v1.m, v1.st⟩ l2 s2 rfl hc (s1.free hc) upd_same no q.reverse
    | _ => rw [z] at h1; exact h1.elim⟩
end
@[simp] theorem v_eCallB (F : List D → Sto → R D) (a : As) (δ : Sl) (s : Sto) : eCallB F a δ s = (a δ s).bind fun ds s1 => thawR s1 (F (ds.map (lokD s1)) (gones s1.length)) := id rfl
@[simp] theorem v_eClr (o : E) (δ : Sl) (s : Sto) : eClr o δ s = (o δ s).bind fun x s1 => if (lsO s1 x).isSome = true then .ok .non (stO s1 x []) else .stk := id rfl
@[simp] theorem v_fRev (f : E) (δ : Sl) (s : Sto) : fRev f δ s = (f δ s).bind fun d s1 => match rsv s1 d with
  | .lst xs => .ok xs.reverse s1
  | _ => .stk := id rfl
theorem thaw_val {s : Sto} {d : D} (h : scal d = true) : thawR s (.ok d (gones s.length)) = .ok d s := by
  unfold thawR
  have e : (gones s.length).length = s.length := by simp [gones]
  simp only [e, h, Nat.le_refl, and_self, if_true, Nat.sub_self]
  simp [gones]
theorem lok_ob {s : Sto} {i : Nat} {xs : List D} (h : s[i]? = some (.lst xs)) : lokD s (.ob i) = .lst xs := by unfold lokD; simp only [h]
@[simp] theorem lok_int (s : Sto) (i : Int) : lokD s (.int i) = .int i := id rfl
@[simp] theorem lok_str (s : Sto) (i : Str) : lokD s (.str i) = .str i := id rfl
@[simp] theorem lok_lst (s : Sto) (i : List D) : lokD s (.lst i) = .lst i := id rfl
@[simp] theorem lok_tup (s : Sto) (i : List D) : lokD s (.tup i) = .tup i := id rfl
end Gs

/-! GCs: classes: instances of the store, their attributes, their methods. -/
namespace L2
open PySem PySem.Spec PyProof.Rows
/-- the method m of the class at C keeps sp -/
structure MtOk (P : Program) (w : World) (K : PySem.W.Frag) (mg : Str → Option Value) (base : Heap) (CX : CXT) (k : Nat) (m : Str) (C : Addr) (sp : Sp) : Prop where
  cls : Cls K C
  ex : ∃ f fd ps, Meth K C m f ∧ FnOk P w K mg base CX k f fd ps sp ∧ Binds K fd ps []
theorem MtOk.mono {P : Program} {w : World} {K : PySem.W.Frag} {mg : Str → Option Value} {base : Heap} {CX : CXT} {j k : Nat} {m : Str} {C : Addr} {sp : Sp} (o : MtOk P w K mg base CX j m C sp) (h : j ≤ k) : MtOk P w K mg base CX k m C sp :=
  ⟨o.cls, let ⟨f, fd, ps, a, b, c⟩ := o.ex; ⟨f, fd, ps, a, b.mono h, c⟩⟩
/-- a def of the class at C, read off the class -/
structure CfOk (K : PySem.W.Frag) (C f : Addr) (m : Str) : Prop where
  ga : PySem.W.specialIn K (.ref C) "__getattribute__" = some (some (.builtin "type.__getattribute__"))
  rd : PySem.W.readsIn K C (.type "type") = true
  at_ : PySem.W.findCls K (.ref C) (.type "type") m = some (.val (.ref f))
  kp : PySem.W.keepIn K (.ref f) = true
def tMethV (S : Addr → Sp → Prop) (m : Str) (E : St → XK) (ta : TE) (t : TA) : TE := fun σ H Q => ta σ H fun x H1 => ∃ a C dx fs sp, x = .ref a ∧ H1 a = some (.ins C dx fs) ∧ fs.lookup m = none ∧ S C sp ∧ t σ H1 fun vs H2 => sp (x :: vs) H2 Q (E σ)
def tMakeS (C : Addr) (sp : Sp) (E : St → XK) (t : TA) : TE := fun σ H Q => t σ H fun vs H1 => ∀ x dx, H1 x = none → H1 dx = none → dx ≠ x → sp (.ref x :: vs) (upd (upd H1 dx (.own x)) x (.ins C dx [])) (fun v H2 => v = .non ∧ Q (.ref x) H2) (E σ)
section
variable {X : Cx} {CX : CXT} {k : Nat} {E : St → XK} {m x : Str} {pos apos p1 p2 : Pos} {e o : Expr} {es : List Expr} {ta : TE} {t : TA} {S : Addr → Sp → Prop} {C f : Addr} {fd : FuncData} {ps : List Str} {sp : Sp} {pl : Sem Bool}
/-- o.m(e, ..), the method found by the instance's class -/
theorem pe_methV (hS : ∀ C sp, S C sp → MtOk X.prog X.w X.K X.mg X.base CX k m C sp) (hr : Room k X.A) (hx : ∀ σ, PassesAt CX X σ (E σ)) (he : PE X o ta) (ha : PA X (e :: es) t)
    (ht : eval (.Call (.Attribute o m apos) (e :: es) [] pos) X.env = (do let ov ← eval o X.env; standAt apos.atName; let (f, first) ← holding [ov] (getMethod ov m pl); callWith pos f first (backTo pos (starEach (e :: es) X.env)) (backToKw pos (keywordEach [] X.env))) := by rfl)
    (hst : starEach (e :: es) X.env = (false, eval e X.env) :: starEach es X.env := by rfl) (hpl : (backTo pos (starEach es X.env)).any (·.1) = false := by rfl) :
    PE X (.Call (.Attribute o m apos) (e :: es) [] pos) (tMethV S m E ta t) :=
  ⟨fun pins s σ H Q I h => PySem.W.methodCall_KW (pl := pl) (thn (he.run pins s σ H _ I h) fun u s1 ⟨x, H1, I1, rx, a, C, dx, fs, sp, ex, ea, l, hs, q⟩ => by
    subst ex
    obtain rfl : u = Value.ref a := rx
    obtain ⟨cl, f, fd, ps, hm, F, hb⟩ := hS C sp hs
    exact getmeth_ok I1 ea cl hm l (PySem.W.callWith_K (first := [.ref a]) (h₀ := X.base) I.ok.mod.kin hm.kp (thn (ha.run pos pins s1 σ H1 _ I1 q) fun us s2 ⟨vs, H2, I2, r, q2⟩ => ⟨I2.kIn, run_fnS (us := .ref a :: us) (vs := .ref a :: vs) F hr hb (hx σ) I2 (.cons rfl r) q2⟩) hst hpl)) ht⟩
theorem pe_methV0 (hS : ∀ C sp, S C sp → MtOk X.prog X.w X.K X.mg X.base CX k m C sp) (hr : Room k X.A) (hx : ∀ σ, PassesAt CX X σ (E σ)) (he : PE X o ta)
    (ht : eval (.Call (.Attribute o m apos) [] [] pos) X.env = (do let ov ← eval o X.env; standAt apos.atName; let (f, first) ← holding [ov] (getMethod ov m pl); callWith pos f first (backTo pos (starEach [] X.env)) (backToKw pos (keywordEach [] X.env))) := by rfl) :
    PE X (.Call (.Attribute o m apos) [] [] pos) (tMethV S m E ta tNil) :=
  ⟨fun pins s σ H Q I h => PySem.W.methodCall_KW (pl := pl) (thn (he.run pins s σ H _ I h) fun u s1 ⟨x, H1, I1, rx, a, C, dx, fs, sp, ex, ea, l, hs, q⟩ => by
    subst ex
    obtain rfl : u = Value.ref a := rx
    obtain ⟨cl, f, fd, ps, hm, F, hb⟩ := hS C sp hs
    exact getmeth_ok I1 ea cl hm l (PySem.W.callWith_K0 (first := [.ref a]) I1.kIn hm.kp (run_fnS (us := [.ref a]) (vs := [.ref a]) F hr hb (hx σ) I1 (.cons rfl .nil) q))) ht⟩
/-- C.m(e, ..) -/
theorem pe_cfun (c : CfOk X.K C f m) (hg : Gl X x) (hm : X.mg x = some (.ref C)) (F : FnOk X.prog X.w X.K X.mg X.base CX k f fd ps sp) (hr : Room k X.A) (hb : Binds X.K fd ps []) (hx : ∀ σ, PassesAt CX X σ (E σ)) (ha : PA X (e :: es) t)
    (ht : eval (.Call (.Attribute (.Name x p1) m p2) (e :: es) [] pos) X.env = (do let ov ← eval (.Name x p1) X.env; standAt p2.atName; let (f, first) ← holding [ov] (getMethod ov m pl); callWith pos f first (backTo pos (starEach (e :: es) X.env)) (backToKw pos (keywordEach [] X.env))) := by rfl)
    (hdb : (x == ("__debug__" : Str)) = false := by decide) (hst : starEach (e :: es) X.env = (false, eval e X.env) :: starEach es X.env := by rfl) (hpl : (backTo pos (starEach es X.env)).any (·.1) = false := by rfl) :
    PE X (.Call (.Attribute (.Name x p1) m p2) (e :: es) [] pos) (tCallS sp E t) :=
  ⟨fun pins s σ H Q I h => PySem.W.methodCall_KW (pl := pl) (ld_glob I hg hm (PySem.W.method_cls I.kIn c.ga (PySem.W.cls_value I.kIn c.rd c.at_ rfl
    (PySem.W.callWith_K (h₀ := X.base) I.ok.mod.kin c.kp (thn (ha.run pos pins _ σ H _ (I.tok _) h) fun us s1 ⟨vs, H1, I1, r, q⟩ => ⟨I1.kIn, run_fnS F hr hb (hx σ) I1 r q⟩) hst hpl))) hdb) ht⟩
theorem run_makeS {pins : List (Addr × Obj)} {σ : St} {H : Hp} {s : Shared} {Q : VK} {us : List Value} {vs : List V} (M : Mk X.K C f) (F : FnOk X.prog X.w X.K X.mg X.base CX k f fd ps sp) (hr : Room (k + 1) X.A) (hb : Binds X.K fd ps []) (hx : PassesAt CX X σ (E σ)) (I : Inv X pins σ H s) (r : Vals vs us)
    (h : ∀ x dx, H x = none → H dx = none → dx ≠ x → sp (.ref x :: vs) (upd (upd H dx (.own x)) x (.ins C dx [])) (fun v H2 => v = .non ∧ Q (.ref x) H2) (E σ)) : wpAny (model X.prog X.w) X.A (call (.ref C) us) (EP X pins σ Q) X.xe s := by
  have hq := h (s.heap.objs.size + 1) s.heap.objs.size (I.hok.fresh (Nat.le_succ _)) (I.hok.fresh (Nat.le_refl _)) (Nat.ne_of_lt (Nat.lt_succ_self _))
  have J := Inv.made (C := C) I
  have rr : Vals (V.ref (s.heap.objs.size + 1) :: vs) (Value.ref (s.heap.objs.size + 1) :: us) := .cons rfl r
  have hl : (Value.ref (s.heap.objs.size + 1) :: us).length = ps.length := by rw [← rr.length]; exact F.len _ _ _ _ hq
  have b := hb _ (Value.ref (s.heap.objs.size + 1) :: us) J.kIn (by rw [List.append_nil]; exact hl)
  rw [List.append_nil] at b
  have run := F.run _ X.stack _ _ ⟨Value.ref (s.heap.objs.size + 1) :: us, []⟩ _ _ _ (E σ) (hr.make C us []) (J.env0.make C us []) b rr hq
  refine wpAny_call (make_map (f := f) I.kIn M.makes M.init (beq_iff_eq.mp M.fn) (codeAny_mono run fun r s' hz => ?_))
  cases r with
  | error e => exact hx pins _ _ e s' J hz
  | ok fl =>
    cases fl with
    | ret u =>
      obtain ⟨v, H3, J3, rv, ev, q3⟩ := J.after hz
      subst ev
      exact ⟨rv, V.ref (s.heap.objs.size + 1), H3, J3, rfl, q3⟩
    | next => exact hz.elim
    | brk => exact hz.elim
    | cont => exact hz.elim
/-- C(e, ..) -/
theorem pe_makeS (M : Mk X.K C f) (F : FnOk X.prog X.w X.K X.mg X.base CX k f fd ps sp) (hr : Room (k + 1) X.A) (hg : Gl X x) (hm : X.mg x = some (.ref C)) (hb : Binds X.K fd ps []) (hx : ∀ σ, PassesAt CX X σ (E σ)) (ha : PA X (e :: es) t)
    (hdb : (x == ("__debug__" : Str)) = false := by decide) (hst : starEach (e :: es) X.env = (false, eval e X.env) :: starEach es X.env := by rfl) (hpl : (backTo pos (starEach es X.env)).any (·.1) = false := by rfl) :
    PE X (.Call (.Name x p1) (e :: es) [] pos) (tMakeS C sp E t) :=
  ⟨fun pins s σ H Q I h => wpAny_Call_Name_kw (ld_glob I hg hm (PySem.W.callWith_K (h₀ := X.base) I.ok.mod.kin M.kp (thn (ha.run pos pins s σ H _ I h) fun us s1 ⟨vs, H1, I1, r, q⟩ => ⟨I1.kIn, run_makeS M F hr hb (hx σ) I1 r q⟩) hst hpl) hdb)⟩
end
/-- what an expression tells is locked from here on -/
def tLk (t : TE) : TE := fun σ H Q => t σ H fun x H1 => (∃ d kvs, x = .ref d ∧ H1 d = some (.dK kvs) ∧ ∀ ob, Q x (upd H1 d (.frz ob (.dK kvs)))) ∨ Q x H1
theorem pe_lk {X : Cx} {e : Expr} {t : TE} (h : PE X e t) : PE X e (tLk t) := ⟨fun pins s σ H Q I q => thn (h.run pins s σ H _ I q) fun u s1 ⟨x, H1, I1, r, z⟩ => by
  rcases z with ⟨d, kvs, ex, hd, z⟩ | z
  · obtain ⟨ob, I2⟩ := I1.lock hd True.intro
    exact ⟨x, _, I2, r, z ob⟩
  · exact ⟨x, H1, I1, r, z⟩⟩
end L2

/-! GCd: instances and dicts of the store, over data. -/
namespace Gs
open PySem L2
/-! ### instances -/
def inO (s : Sto) : D → Option (String × List (Str × D))
  | .ob i => match s[i]? with
    | some (.ins c fs) => some (c, fs)
    | _ => none
  | _ => none
def putD (f : Str) (v : D) : List (Str × D) → List (Str × D)
  | [] => [(f, v)]
  | (g, x) :: r => if g = f then (g, v) :: r else (g, x) :: putD f v r
theorem RepP.putF {K : PySem.W.Frag} {ct : String → Addr} {G : Hp} {m : Nat → Option Addr} {f : Str} {d : D} {v : V} (h : Rep K ct G m d v) {ds : List (Str × D)} {vs : List (Str × V)} (r : RepP K ct G m ds vs) : RepP K ct G m (putD f d ds) (L2.putF f v vs) := by
  induction r with
  | nil => exact .cons h .nil
  | @cons x d0 v0 ds vs h0 r ih =>
    simp only [putD, L2.putF]
    by_cases e : x = f
    · rw [if_pos e, if_pos e]
      exact .cons h r
    · rw [if_neg e, if_neg e]
      exact .cons h0 ih
theorem inO_at {K : PySem.W.Frag} {ct : String → Addr} {v : Vw} {d : D} {x : V} {c : String} {fs : List (Str × D)} (sr : SR K ct v) (r : Rep K ct v.G v.m d x) (e : inO v.st d = some (c, fs)) :
    ∃ i a dx vs, d = .ob i ∧ x = .ref a ∧ v.m i = some a ∧ v.st[i]? = some (.ins c fs) ∧ v.H a = some (.ins (ct c) dx vs) ∧ v.H dx = some (.own a) ∧ v.G dx = none ∧ RepP K ct v.G v.m fs vs := by
  unfold inO at e
  split at e
  · rename_i i
    split at e
    · rename_i c' fs' q
      simp only [Option.some.injEq, Prod.mk.injEq] at e
      obtain ⟨rfl, rfl⟩ := e
      cases r with
      | ob em =>
        obtain ⟨a', em', _, dx, vs, h1, h2, h3, r2⟩ := sr.obj i _ q rfl
        rw [em] at em'
        cases em'
        exact ⟨i, _, dx, vs, rfl, rfl, em, q, h1, h2, h3, r2⟩
    · exact nomatch e
  · exact nomatch e
/-- o.f -/
def eAt (cl : String → Bool) (f : Str) (o : E) : E := fun δ s => (o δ s).bind fun x s1 => match inO s1 x with
  | some (c, fs) => if cl c = true then R.ofO (fs.lookup f) s1 else .stk
  | none => .stk
/-- o.f = e -/
def sSetAt (cl : String → Bool) (f : Str) (o e : E) : S := fun δ s => sBind (e δ s) δ fun y s1 => sBind (o δ s1) δ fun x s2 => match x, inO s2 x with
  | .ob i, some (c, fs) => if cl c = true ∧ fs.length < 1000 then .nx δ (s2.set i (.ins c (putD f y fs))) else .stk
  | _, _ => .stk
/-- the classes' facts of an attribute -/
abbrev ClAt (K : PySem.W.Frag) (ct : String → Addr) (cl : String → Bool) (f : Str) : Prop := ∀ c, cl c = true → Cls K (ct c) ∧ NoAttr K (ct c) f
section
variable {X : Cx} {C : Cc} {pos p1 p2 apos : Pos} {e o : Expr} {es : List Expr} {fo fe : E} {fa : As} {f x : Str} {cl : String → Bool} {k n : Nat}
theorem se_at (hcl : ClAt X.K C.ct cl f) (ho : SE X C o fo) (hb : attributeBase o f X.env (eval o X.env) = eval o X.env := by rfl) : SE X C (.Attribute o f pos) (eAt cl f fo) :=
  pe_weak (pe_fld ho hb) fun σ H Q ⟨δ, v, re, eH, h⟩ => ⟨δ, v, re, eH, on_mono (on_bind h) fun d x v1 l1 s1 r1 h1 => by
    cases q : inO v1.st d with
    | none => rw [q] at h1; exact h1.elim
    | some p =>
      obtain ⟨c, fs⟩ := p
      rw [q] at h1
      simp only at h1
      split at h1
      · rename_i hc
        obtain ⟨i, a, dx, vs, rfl, rfl, em, e1, h2, h3, h4, r2⟩ := inO_at s1 r1 q
        obtain ⟨c1, c2⟩ := hcl c hc
        obtain ⟨y, ey, h5⟩ := on_ofO h1
        rcases r2.lookup (x := f) with ⟨z, _⟩ | ⟨d2, v2, z1, z2, z3⟩
        · rw [ey] at z; exact nomatch z
        · rw [ey] at z1
          cases z1
          exact ⟨a, _, dx, vs, v2, rfl, h2, c1, c2, z2, h5 v2 v1 .refl s1 rfl z3⟩
      · exact h1.elim⟩
theorem setAt_ok {K : PySem.W.Frag} {ct : String → Addr} {v : Vw} {i : Nat} {a dx : Addr} {c : String} {fs us : List (Str × D)} {vs ws : List (Str × V)} (sr : SR K ct v) (em : v.m i = some a) (q : v.st[i]? = some (.ins c fs)) (h1 : v.H a = some (.ins (ct c) dx vs)) (h2 : v.H dx = some (.own a)) (h3 : v.G dx = none) (r : RepP K ct v.G v.m us ws) :
    Le v (v.put i a (.ins (ct c) dx ws) (.ins c us)) ∧ SR K ct (v.put i a (.ins (ct c) dx ws) (.ins c us)) := by
  have ne : dx ≠ a := fun z => by rw [z, h1] at h2; cases h2
  refine put_ok sr q rfl em (fun C b fs z => by cases z; exact ⟨vs, h1⟩) ⟨dx, ws, upd_same, ?_, h3, r⟩
  show upd v.H a _ dx = _
  rw [upd_ne ne]
  exact h2
theorem ss_setAt {pos' : Pos} (hcl : ClAt X.K C.ct cl f) (ho : SE X C o fo) (he : SE X C e fe) (hs : swapsWith e (some (.Attribute o f pos')) pos.line X.env = pure false := by rfl) : SS X C (.Assign [.Attribute o f pos'] e pos) (sSetAt cl f fo fe) :=
  ps_weak (ps_fld ho he hs) fun Dn σ H ⟨δ, v, re, eH, h⟩ => ⟨δ, v, re, eH, on_mono (onS_R re h) fun d y v1 l1 s1 r1 h1 => ⟨δ, v1, re.step l1 s1, rfl, on_mono (onS_R (re.step l1 s1) h1) fun d2 x v2 l2 s2 r2 h2 => by
    cases q : inO v2.st d2 with
    | none => rw [q] at h2; cases d2 <;> exact h2.elim
    | some p =>
      obtain ⟨c, fs⟩ := p
      obtain ⟨i, a, dx, vs, rfl, rfl, em, e1, h3, h4, h5, r3⟩ := inO_at s2 r2 q
      rw [q] at h2
      simp only at h2
      split at h2
      · rename_i hc
        obtain ⟨c1, c2⟩ := hcl c hc.1
        obtain ⟨l3, s3⟩ := setAt_ok s2 em e1 h3 h4 h5 (RepP.putF (f := f) (l2.rep r1) r3)
        exact ⟨a, _, dx, vs, rfl, h3, c1, c2, by rw [← r3.length]; exact hc.2, h2 σ (v2.put i a (.ins (C.ct c) dx (L2.putF f y vs)) (.ins c (putD f d fs))) (((re.step l1 s1).step l2 s2).step l3 s3) l3 rfl⟩
      · exact h2.elim⟩⟩
/-- o.m(..) -/
abbrev Mt := String → Option (List D → Sto → R D)
def eMeth (M : Mt) (m : Str) (o : E) (a : As) : E := fun δ s => (o δ s).bind fun x s1 => match inO s1 x with
  | some (c, fs) => if (fs.lookup m).isNone = true then (match M c with
    | some F => (a δ s1).bind fun ds s2 => F (x :: ds) s2
    | none => .stk) else .stk
  | none => .stk
/-- the methods named m of the classes keep what M says -/
abbrev MtsOk (P : Program) (w : World) (K : PySem.W.Frag) (mg : Str → Option Value) (base : Heap) (ct : String → Addr) (k n : Nat) (m : Str) (M : Mt) : Prop := ∀ c F, M c = some F → MtOk P w K mg base (L2.CX P w) k m (ct c) (spG K ct n F)
theorem on_methV {K : PySem.W.Frag} {M : Mt} {σ : L2.St} {H : Hp} {Q : VK} {ta : TE} {t : TA} (hl : LenA fa n) (hta : ∀ σ H Q, liftE K C fo σ H Q → ta σ H Q) (hta2 : ∀ σ H Q, liftA K C fa σ H Q → t σ H Q) (h : liftE K C (eMeth M x fo fa) σ H Q)
    (mono : ∀ σ H (Q Q' : VK), (∀ v H, Q v H → Q' v H) → ta σ H Q → ta σ H Q') : tMethV (fun C' sp => ∃ c F, C' = C.ct c ∧ sp = spG K C.ct (n + 1) F ∧ M c = some F) x (WE C.W) ta t σ H Q := by
  obtain ⟨δ, v, re, eH, h⟩ := h
  refine hta _ _ _ ⟨δ, v, re, eH, on_mono (on_bind h) fun d y v1 l1 s1 r1 h1 => ?_⟩
  cases q : inO v1.st d with
  | none => rw [q] at h1; exact h1.elim
  | some p =>
    obtain ⟨c, fs⟩ := p
    rw [q] at h1
    simp only at h1
    split at h1
    · rename_i hc
      cases z : M c with
      | none => rw [z] at h1; exact h1.elim
      | some F =>
        rw [z] at h1
        obtain ⟨i, a, dx, vs, rfl, rfl, em, e1, h3, h4, h5, r3⟩ := inO_at s1 r1 q
        refine ⟨a, _, dx, vs, spG K C.ct (n + 1) F, rfl, h3, ?_, ⟨c, F, rfl, rfl, z⟩, hta2 _ _ _ ⟨δ, v1, re.step l1 s1, rfl, on_mono (on_eq (on_bind h1)) fun ds us v2 l2 s2 r2 h2 => ?_⟩⟩
        · rcases r3.lookup (x := x) with ⟨_, z1⟩ | ⟨d2, v2, z1, _⟩
          · exact z1
          · rw [z1] at hc; exact nomatch hc
        · obtain ⟨h2, s, q2⟩ := h2
          exact on_sp s2 (by rw [List.length_cons, hl _ _ _ _ q2]) (.cons (l2.rep r1) r2) h2
    · exact h1.elim
theorem se_meth {M : Mt} {m : Str} {pl : Sem Bool} (hM : MtsOk X.prog X.w X.K X.mg X.base C.ct k (n + 1) m M) (hr : Room k X.A) (tk : Takes X C.W) (ho : SE X C o fo) (ha : SA X C (e :: es) fa) (hl : LenA fa n)
    (ht : eval (.Call (.Attribute o m apos) (e :: es) [] pos) X.env = (do let ov ← eval o X.env; standAt apos.atName; let (f, first) ← holding [ov] (getMethod ov m pl); callWith pos f first (backTo pos (starEach (e :: es) X.env)) (backToKw pos (keywordEach [] X.env))) := by rfl)
    (hst : starEach (e :: es) X.env = (false, eval e X.env) :: starEach es X.env := by rfl) (hpl : (backTo pos (starEach es X.env)).any (·.1) = false := by rfl) :
    SE X C (.Call (.Attribute o m apos) (e :: es) [] pos) (eMeth M m fo fa) :=
  pe_weak (pe_methV (pl := pl) (S := fun C' sp => ∃ c F, C' = C.ct c ∧ sp = spG X.K C.ct (n + 1) F ∧ M c = some F) (CX := L2.CX X.prog X.w) (k := k) (fun C' sp ⟨c, F, e1, e2, e3⟩ => by subst e1; subst e2; exact hM c F e3) hr (fun σ => passAt tk σ) ho ha ht hst hpl) fun σ H Q h =>
    on_methV hl (fun _ _ _ z => z) (fun _ _ _ z => z) h fun σ H Q Q' w ⟨δ, v, re, eH, h⟩ => ⟨δ, v, re, eH, on_mono h fun _ _ _ _ _ _ z => w _ _ z⟩
theorem se_meth0 {M : Mt} {m : Str} {pl : Sem Bool} (hM : MtsOk X.prog X.w X.K X.mg X.base C.ct k 1 m M) (hr : Room k X.A) (tk : Takes X C.W) (ho : SE X C o fo)
    (ht : eval (.Call (.Attribute o m apos) [] [] pos) X.env = (do let ov ← eval o X.env; standAt apos.atName; let (f, first) ← holding [ov] (getMethod ov m pl); callWith pos f first (backTo pos (starEach [] X.env)) (backToKw pos (keywordEach [] X.env))) := by rfl) :
    SE X C (.Call (.Attribute o m apos) [] [] pos) (eMeth M m fo aNil) :=
  pe_weak (pe_methV0 (pl := pl) (S := fun C' sp => ∃ c F, C' = C.ct c ∧ sp = spG X.K C.ct (0 + 1) F ∧ M c = some F) (CX := L2.CX X.prog X.w) (k := k) (fun C' sp ⟨c, F, e1, e2, e3⟩ => by subst e1; subst e2; exact hM c F e3) hr (fun σ => passAt tk σ) ho ht) fun σ H Q h =>
    on_methV (fa := aNil) lenA_nil (fun _ _ _ z => z) (fun σ H Q ⟨δ, v, re, eH, h⟩ => by subst eH; exact on_self (b := []) re.sr h .nil) h fun σ H Q Q' w ⟨δ, v, re, eH, h⟩ => ⟨δ, v, re, eH, on_mono h fun _ _ _ _ _ _ z => w _ _ z⟩
/-- C.m(..) -/
theorem se_cfun {m : Str} {Ca g : Addr} {fd : FuncData} {ps : List Str} {F : List D → Sto → R D} {pl : Sem Bool} (c : CfOk X.K Ca g m) (hm : X.mg x = some (.ref Ca)) (hF : FnOk X.prog X.w X.K X.mg X.base (L2.CX X.prog X.w) k g fd ps (spG X.K C.ct n F)) (hr : Room k X.A) (tk : Takes X C.W) (hg : Gl X x) (hb : Binds X.K fd ps [])
    (ha : SA X C (e :: es) fa) (hl : LenA fa n)
    (ht : eval (.Call (.Attribute (.Name x p1) m p2) (e :: es) [] pos) X.env = (do let ov ← eval (.Name x p1) X.env; standAt p2.atName; let (f, first) ← holding [ov] (getMethod ov m pl); callWith pos f first (backTo pos (starEach (e :: es) X.env)) (backToKw pos (keywordEach [] X.env))) := by rfl)
    (hdb : (x == ("__debug__" : Str)) = false := by decide) (hst : starEach (e :: es) X.env = (false, eval e X.env) :: starEach es X.env := by rfl) (hpl : (backTo pos (starEach es X.env)).any (·.1) = false := by rfl) :
    SE X C (.Call (.Attribute (.Name x p1) m p2) (e :: es) [] pos) (eCall F fa) :=
  pe_weak (pe_cfun (pl := pl) c hg hm hF hr hb (fun σ => passAt tk σ) ha ht hdb hst hpl) fun σ H Q ⟨δ, v, re, eH, h⟩ => ⟨δ, v, re, eH, on_mono (on_eq (on_bind h)) fun ds vs v1 l1 s1 r1 h1 => by
    obtain ⟨h1, s, q⟩ := h1
    exact on_sp s1 (hl _ _ _ _ q) r1 h1⟩
/-- C(..) -/
def eMake (c : String) (F : List D → Sto → R D) (a : As) : E := fun δ s => (a δ s).bind fun ds s1 => (F (.ob s1.length :: ds) (s1 ++ [.ins c []])).bind fun r s2 => match r with
  | .non => .ok (.ob s1.length) s2
  | _ => .stk
theorem se_make {c : String} {g : Addr} {fd : FuncData} {ps : List Str} {F : List D → Sto → R D} (M : Mk X.K (C.ct c) g) (hm : X.mg x = some (.ref (C.ct c))) (hF : FnOk X.prog X.w X.K X.mg X.base (L2.CX X.prog X.w) k g fd ps (spG X.K C.ct (n + 1) F)) (hr : Room (k + 1) X.A) (tk : Takes X C.W) (hg : Gl X x) (hb : Binds X.K fd ps [])
    (ha : SA X C (e :: es) fa) (hl : LenA fa n) (hdb : (x == ("__debug__" : Str)) = false := by decide) (hst : starEach (e :: es) X.env = (false, eval e X.env) :: starEach es X.env := by rfl) (hpl : (backTo pos (starEach es X.env)).any (·.1) = false := by rfl) :
    SE X C (.Call (.Name x p1) (e :: es) [] pos) (eMake c F fa) :=
  pe_weak (pe_makeS M hF hr hg hm hb (fun σ => passAt tk σ) ha hdb hst hpl) fun σ H Q ⟨δ, v, re, eH, h⟩ => ⟨δ, v, re, eH, on_mono (on_eq (on_bind h)) fun ds vs v1 l1 s1 r1 h1 => by
    obtain ⟨h1, s, q⟩ := h1
    intro a dx na ndx ne
    have hs : Same v1.H (upd (upd v1.H dx (.own a)) a (.ins (C.ct c) dx [])) := fun b u z => by rw [upd_ne (ne_of_none z na), upd_ne (ne_of_none z ndx)]; exact z
    obtain ⟨l2, s2⟩ := alloc_ok (p := a) (H' := upd (upd v1.H dx (.own a)) a (.ins (C.ct c) dx [])) (o := .ins c []) s1 na hs (fun C' b fs z => by rw [upd_same] at z; cases z; exact ndx)
      ⟨dx, [], upd_same, by show upd _ a _ dx = _; rw [upd_ne ne, upd_same], s1.free ndx, .nil⟩
    refine ⟨_, .ob v1.st.length :: ds, rfl, s2, by rw [List.length_cons, hl _ _ _ _ q], .cons (.ob mset_same) (l2.repl r1), ?_⟩
    have h3 := on_bind (rel := rE X.K C.ct) h1
    show match F (.ob v1.st.length :: ds) (v1.st ++ [.ins c []]) with
      | .ok d s => _
      | .exc e s => _
      | .stk => _
    cases z : F (.ob v1.st.length :: ds) (v1.st ++ [.ins c []]) with
    | stk => rw [z] at h3; exact h3.elim
    | exc e2 s3 => rw [z] at h3; exact fun cls dd v' l sr es rx => h3 cls dd v' (l2.trans l) sr es rx
    | ok d s3 =>
      rw [z] at h3
      intro y v' l sr es ry
      have h4 := h3 y v' (l2.trans l) sr es ry
      cases ry <;> first
        | exact h4.elim
        | exact ⟨rfl, on_self sr h4 (.ob (l.m _ _ mset_same))⟩⟩
end
end Gs

/-! GDc: dicts of the store: made, read, stored into, their values walked. -/
namespace Gs
open PySem L2
def eDNewK : E := fun _ s => .ok (.ob s.length) (s ++ [.dK []])
def eDNewT : E := fun _ s => .ok (.ob s.length) (s ++ [.dT []])
def keyD : D → Option Key
  | .int i => some (.inl i)
  | .str x => some (.inr x)
  | _ => none
def keysD : List D → Option (List Key)
  | [] => some []
  | d :: ds => match keyD d, keysD ds with
    | some k, some ks => some (k :: ks)
    | _, _ => none
/-- the pairs of a dict with plain keys -/
def dkO (s : Sto) : D → Option (List (Key × D))
  | .ob i => match s[i]? with
    | some (.dK kvs) => some kvs
    | some (.fK kvs) => some kvs
    | _ => none
  | .dct ks ds => some (ks.zip ds)
  | _ => none
def dtO (s : Sto) : D → Option (List (List Key × D))
  | .ob i => match s[i]? with
    | some (.dT kvs) => some kvs
    | _ => none
  | _ => none
section
variable {κ : Type} [DecidableEq κ]
def valD (kvs : List (κ × D)) (k : κ) : Option D := (kvs.find? fun kv => decide (kv.1 = k)).map (·.2)
def putKD (kvs : List (κ × D)) (k : κ) (v : D) : List (κ × D) := if (kvs.any fun kv => decide (kv.1 = k)) = true then kvs.map (fun kv => if kv.1 = k then (kv.1, v) else kv) else kvs ++ [(k, v)]
variable {K : PySem.W.Frag} {ct : String → Addr} {G : Hp} {m : Nat → Option Addr}
theorem RepP.val {ds : List (κ × D)} {vs : List (κ × V)} (k : κ) (r : RepP K ct G m ds vs) : (valD ds k = none ∧ L2.valV vs k = none) ∨ ∃ d v, valD ds k = some d ∧ L2.valV vs k = some v ∧ Rep K ct G m d v := by
  induction r with
  | nil => exact .inl ⟨rfl, rfl⟩
  | @cons x d v ds vs h r ih =>
    by_cases e : x = k
    · exact .inr ⟨d, v, by simp [valD, e], L2.valV_pos (p := (x, v)) e, h⟩
    · rw [L2.valV_neg (p := (x, v)) e]
      have e2 : valD ((x, d) :: ds) k = valD ds k := by simp [valD, e]
      rw [e2]
      exact ih
theorem RepP.any {ds : List (κ × D)} {vs : List (κ × V)} (k : κ) (r : RepP K ct G m ds vs) : (ds.any fun kv => decide (kv.1 = k)) = vs.any fun kv => decide (kv.1 = k) := by
  induction r with
  | nil => rfl
  | cons h r ih => simp only [List.any_cons, ih]
theorem RepP.mapPut {d : D} {v : V} (h : Rep K ct G m d v) {ds : List (κ × D)} {vs : List (κ × V)} (k : κ) (r : RepP K ct G m ds vs) : RepP K ct G m (ds.map fun kv => if kv.1 = k then (kv.1, d) else kv) (vs.map fun kv => if kv.1 = k then (kv.1, v) else kv) := by
  induction r with
  | nil => exact .nil
  | @cons x d0 v0 ds vs h0 r ih =>
    simp only [List.map_cons]
    by_cases e : x = k
    · rw [if_pos e, if_pos e]
      exact .cons h ih
    · rw [if_neg e, if_neg e]
      exact .cons h0 ih
theorem RepP.putK {d : D} {v : V} (h : Rep K ct G m d v) {ds : List (κ × D)} {vs : List (κ × V)} (k : κ) (r : RepP K ct G m ds vs) : RepP K ct G m (putKD ds k d) (L2.putK vs k v) := by
  unfold putKD L2.putK
  rw [r.any k]
  split
  · exact r.mapPut h k
  · exact r.append (.cons h .nil)
end
section
variable {K : PySem.W.Frag} {ct : String → Addr} {v : Vw}
theorem keyD_rep {d : D} {x : V} {k : Key} (e : keyD d = some k) (r : Rep K ct v.G v.m d x) : x = kV k := by
  cases r <;> simp only [keyD, Option.some.injEq, reduceCtorEq] at e <;> subst e <;> rfl
theorem keysD_rep : ∀ {ds : List D} {xs : List V} {ks : List Key}, keysD ds = some ks → RepL K ct v.G v.m ds xs → xs = ks.map kV
  | [], _, ks, e, .nil => by simp only [keysD, Option.some.injEq] at e; subst e; rfl
  | d :: ds, _, ks, e, .cons h r => by
    simp only [keysD] at e
    split at e
    · rename_i k ks' e1 e2
      simp only [Option.some.injEq] at e
      subst e
      rw [List.map_cons, keyD_rep e1 h, keysD_rep e2 r]
    · exact nomatch e
theorem dkO_at {d : D} {x : V} {kvs : List (Key × D)} (sr : SR K ct v) (r : Rep K ct v.G v.m d x) (e : dkO v.st d = some kvs) : ∃ a vs, x = .ref a ∧ Rd v.H a (.dK vs) ∧ RepP K ct v.G v.m kvs vs := by
  unfold dkO at e
  split at e
  · rename_i i
    cases r with
    | ob em =>
      split at e
      · rename_i kvs' q
        simp only [Option.some.injEq] at e
        subst e
        obtain ⟨a', em', _, vs, h, r2⟩ := sr.obj i _ q rfl
        rw [em] at em'
        cases em'
        exact ⟨_, vs, rfl, .inl h, r2⟩
      · rename_i kvs' q
        simp only [Option.some.injEq] at e
        subst e
        obtain ⟨a', ob, vs, em', h, r2⟩ := sr.fk i _ q
        rw [em] at em'
        cases em'
        exact ⟨_, vs, rfl, .inr ⟨ob, sr.sub _ _ h⟩, r2⟩
      · exact nomatch e
  · rename_i ks ds
    simp only [Option.some.injEq] at e
    subst e
    cases r with
    | dct h l r => exact ⟨_, _, rfl, .inl (sr.sub _ _ h), RepP.zip r⟩
  · exact nomatch e
theorem dtO_at {d : D} {x : V} {kvs : List (List Key × D)} (sr : SR K ct v) (r : Rep K ct v.G v.m d x) (e : dtO v.st d = some kvs) : ∃ i a vs, d = .ob i ∧ x = .ref a ∧ v.m i = some a ∧ v.st[i]? = some (.dT kvs) ∧ v.H a = some (.dT vs) ∧ RepP K ct v.G v.m kvs vs := by
  unfold dtO at e
  split at e
  · rename_i i
    split at e
    · rename_i kvs' q
      simp only [Option.some.injEq] at e
      subst e
      cases r with
      | ob em =>
        obtain ⟨a', em', _, vs, h, r2⟩ := sr.obj i _ q rfl
        rw [em] at em'
        cases em'
        exact ⟨i, _, vs, rfl, rfl, em, q, h, r2⟩
    · exact nomatch e
  · exact nomatch e
end
/-- o[k] -/
def eDIx (o k : E) : E := fun δ s => (o δ s).bind fun x s1 => (k δ s1).bind fun y s2 => match dkO s2 x, keyD y with
  | some kvs, some k => R.ofO (valD kvs k) s2
  | _, _ => .stk
/-- o.get(k, e) -/
def eDGet2 (o k e : E) : E := fun δ s => (o δ s).bind fun x s1 => if (dkO s1 x).isSome = true then ((k δ s1).bind fun y s2 => (e δ s2).bind fun z s3 => match dkO s3 x, keyD y with
  | some kvs, some k => .ok ((valD kvs k).getD z) s3
  | _, _ => .stk) else .stk
/-- o.get((k, ..), e) -/
def eDGetT (o : E) (ks : As) (e : E) : E := fun δ s => (o δ s).bind fun x s1 => if (dtO s1 x).isSome = true then ((ks δ s1).bind fun ys s2 => if ys.length ≤ sizeLine then (e δ s2).bind fun z s3 => (match dtO s3 x, keysD ys with
  | some kvs, some k => .ok ((valD kvs k).getD z) s3
  | _, _ => .stk) else .stk) else .stk
/-- o[k] = e -/
def sDPutK (o k e : E) : S := fun δ s => sBind (e δ s) δ fun z s1 => sBind (o δ s1) δ fun x s2 => sBind (k δ s2) δ fun y s3 => match x, keyD y with
  | .ob i, some k => (match s3[i]? with
    | some (.dK kvs) => if kvs.length < sizeLine then .nx δ (s3.set i (.dK (putKD kvs k z))) else .stk
    | _ => .stk)
  | _, _ => .stk
/-- o[(k, ..)] = e -/
def sDPutT (o : E) (ks : As) (e : E) : S := fun δ s => sBind (e δ s) δ fun z s1 => sBind (o δ s1) δ fun x s2 => sBind (ks δ s2) δ fun ys s3 => if ys.length ≤ sizeLine then (match x, keysD ys with
  | .ob i, some k => (match s3[i]? with
    | some (.dT kvs) => if kvs.length < sizeLine then .nx δ (s3.set i (.dT (putKD kvs k z))) else .stk
    | _ => .stk)
  | _, _ => .stk) else .stk
/-- o.values(), walked: the dict is read alone from here on -/
def iDVals (o : E) : As := fun δ s => (o δ s).bind fun x s1 => match x with
  | .ob i => match s1[i]? with
    | some (.dK kvs) => .ok (kvs.map (·.2)) (s1.set i (.fK kvs))
    | some (.fK kvs) => .ok (kvs.map (·.2)) s1
    | _ => .stk
  | _ => .stk
theorem tup_new {K : PySem.W.Frag} {ct : String → Addr} {v : Vw} {p : Addr} {xs : List V} (sr : SR K ct v) (hp : v.H p = none) : Le v (v.new p (.tup xs)) ∧ SR K ct (v.new p (.tup xs)) := new_ok sr hp
/-- a dict of the store is read alone from here on -/
theorem lockK_ok {K : PySem.W.Frag} {ct : String → Addr} {v : Vw} {i : Nat} {a : Addr} {ob : Obj} {kvs : List (Key × D)} {vs : List (Key × V)} (s : SR K ct v) (e0 : v.st[i]? = some (.dK kvs)) (em : v.m i = some a) (hu : v.H a = some (.dK vs)) (r : RepP K ct v.G v.m kvs vs) :
    Le v ⟨upd v.G a (.frz ob (.dK vs)), upd v.H a (.frz ob (.dK vs)), v.m, v.st.set i (.fK kvs)⟩ ∧ SR K ct ⟨upd v.G a (.frz ob (.dK vs)), upd v.H a (.frz ob (.dK vs)), v.m, v.st.set i (.fK kvs)⟩ := by
  obtain ⟨ga, w0, hw0, no0⟩ := s.obj_ne e0 rfl em
  have own : v.owns a := ⟨i, _, a, e0, rfl, em, .inl rfl⟩
  have get : ∀ {j : Nat} {w : O}, (v.st.set i (.fK kvs))[j]? = some w → w.live = true → j ≠ i ∧ v.st[j]? = some w := fun {j w} e l => by
    by_cases z : i = j
    · subst z
      rw [List.getElem?_set_self (List.getElem?_eq_some_iff.mp e0).1] at e
      cases e
      cases l
    · rw [List.getElem?_set_ne z] at e
      exact ⟨fun q => z q.symm, e⟩
  have sg := same_new ga (.frz ob (.dK vs))
  have na : ∀ {j : Nat} {w : O} {a2 : Addr}, j ≠ i → v.st[j]? = some w → w.live = true → v.m j = some a2 → a2 ≠ a := fun z e l em2 zz => z (s.inj _ i _ _ a e e0 l rfl (zz ▸ em2) em)
  refine ⟨⟨sg, .refl, fun b w q n => ?_, fun b q => ?_, fun b ⟨j, w, a2, e, l, em2, q⟩ => ?_, fun b q => ?_⟩, same_upd s.sub, fun j hj => s.dom j (by simpa using hj), fun j w e l => ?_, fun j k w w2 a2 e1 e2 l1 l2 m1 m2 => ?_, fun j kv2 e => ?_⟩
  · show upd v.H a _ b = some w
    rw [upd_ne fun z => n (by rw [z]; exact own)]
    exact q
  · by_cases z : b = a
    · exact .inr (.inr (z ▸ own))
    · have q' : upd v.G a (.frz ob (.dK vs)) b ≠ none := q
      rw [upd_ne z] at q'
      exact .inl q'
  · obtain ⟨z, e⟩ := get e l
    have em2' : v.m j = some a2 := em2
    refine .inl ⟨j, w, a2, e, l, em2', q.imp id fun ⟨C, fs, q⟩ => ⟨C, fs, ?_⟩⟩
    have q' : upd v.H a (.frz ob (.dK vs)) a2 = some (.ins C b fs) := q
    rw [upd_ne (na z e l em2')] at q'
    exact q'
  · have q' : upd v.H a (.frz ob (.dK vs)) b = none := q
    by_cases z : b = a
    · rw [z, upd_same] at q'
      cases q'
    · rw [upd_ne z] at q'
      exact q'
  · obtain ⟨z, e⟩ := get e l
    obtain ⟨a2, em2, ga2, r2⟩ := s.obj j w e l
    have n2 := na z e l em2
    refine ⟨a2, em2, (upd_ne n2).trans ga2, r2.mono' (v := v) sg .refl (upd_ne n2) fun C dx fs _ q1 q2 => ?_⟩
    have nd : dx ≠ a := fun zz => by
      rw [zz, hw0] at q1
      exact no0 _ (Option.some.inj q1)
    exact ⟨upd_ne nd, (upd_ne nd).trans q2⟩
  · exact s.inj j k w w2 a2 (get e1 l1).2 (get e2 l2).2 l1 l2 m1 m2
  · have e' : (v.st.set i (.fK kvs))[j]? = some (.fK kv2) := e
    by_cases z : i = j
    · subst z
      rw [List.getElem?_set_self (List.getElem?_eq_some_iff.mp e0).1] at e'
      cases e'
      exact ⟨a, ob, vs, em, upd_same, r.mono sg .refl⟩
    · rw [List.getElem?_set_ne z] at e'
      exact FkR.mono (v := v) (v' := ⟨upd v.G a (.frz ob (.dK vs)), upd v.H a (.frz ob (.dK vs)), v.m, v.st.set i (.fK kvs)⟩) sg .refl (s.fk j kv2 e')
section
variable {X : Cx} {C : Cc} {pos p1 p2 apos cpos : Pos} {e o k : Expr} {es : List Expr} {fo fk fe : E} {fa : As}
theorem se_dnewK : SE X C (.Dict [] [] pos) eDNewK := pe_weak pe_dnewK fun σ H Q ⟨δ, v, re, eH, h⟩ p hp => by
  subst eH
  obtain ⟨l2, s2⟩ := alloc_ok (p := p) (H' := upd v.H p (.dK [])) (o := .dK []) re.sr hp (same_new hp _) (fun C b fs q => by rw [upd_same] at q; cases q) ⟨[], upd_same, .nil⟩
  exact h (.ref p) (v.alloc p (upd v.H p (.dK [])) (.dK [])) l2 s2 rfl (.ob mset_same)
theorem se_dnewT : SE X C (.Dict [] [] pos) eDNewT := pe_weak pe_dnewT fun σ H Q ⟨δ, v, re, eH, h⟩ p hp => by
  subst eH
  obtain ⟨l2, s2⟩ := alloc_ok (p := p) (H' := upd v.H p (.dT [])) (o := .dT []) re.sr hp (same_new hp _) (fun C b fs q => by rw [upd_same] at q; cases q) ⟨[], upd_same, .nil⟩
  exact h (.ref p) (v.alloc p (upd v.H p (.dT [])) (.dT [])) l2 s2 rfl (.ob mset_same)
theorem se_dix (hu : X.A.units + 1 < cLine) (ho : SE X C o fo) (hk : SE X C k fk) (hs : NoSl k := by intro _ _; rfl) : SE X C (.Subscript o k pos) (eDIx fo fk) :=
  pe_weak (pe_dget hu ho hk hs) fun σ H Q ⟨δ, v, re, eH, h⟩ => ⟨δ, v, re, eH, on_mono (on_bind h) fun d x v1 l1 s1 r1 h1 => ⟨δ, v1, re.step l1 s1, rfl, on_mono (on_bind h1) fun d2 y v2 l2 s2 r2 h2 => by
    cases q1 : dkO v2.st d with
    | none => rw [q1] at h2; exact h2.elim
    | some kvs =>
      cases q2 : keyD d2 with
      | none => rw [q1, q2] at h2; exact h2.elim
      | some kk =>
        rw [q1, q2] at h2
        obtain ⟨a, vs, rfl, rd, rp⟩ := dkO_at s2 (l2.rep r1) q1
        have ey := keyD_rep q2 r2
        subst ey
        obtain ⟨z, ez, h3⟩ := on_ofO h2
        rcases rp.val kk with ⟨z1, _⟩ | ⟨d3, v3, z1, z2, z3⟩
        · rw [ez] at z1; exact nomatch z1
        · rw [ez] at z1
          cases z1
          exact ⟨a, v3, rfl, .inl ⟨vs, kk, rd, rfl, z2.symm⟩, h3 v3 v2 .refl s2 rfl z3⟩⟩⟩
theorem se_dget2 (hu : X.A.units + 1 < cLine) (ho : SE X C o fo) (hk : SE X C k fk) (he : SE X C e fe) (m : M2 X o "get" apos k e cpos := by exact ⟨rfl, rfl, rfl, rfl⟩) : SE X C (.Call (.Attribute o "get" apos) [k, e] [] cpos) (eDGet2 fo fk fe) :=
  pe_weak (pe_dget2 hu ho hk he m) fun σ H Q ⟨δ, v, re, eH, h⟩ => ⟨δ, v, re, eH, on_mono (on_bind h) fun d x v1 l1 s1 r1 h1 => by
    split at h1
    · rename_i hs
      obtain ⟨kv0, e0⟩ := isSome_of hs
      obtain ⟨a, vs0, rfl, rd0, _⟩ := dkO_at s1 r1 e0
      refine ⟨a, rfl, .inl ⟨vs0, rd0⟩, δ, v1, re.step l1 s1, rfl, on_mono (on_bind h1) fun d2 y v2 l2 s2 r2 h2 => ⟨δ, v2, (re.step l1 s1).step l2 s2, rfl, on_mono (on_bind h2) fun d3 z v3 l3 s3 r3 h3 => ?_⟩⟩
      cases q1 : dkO v3.st d with
      | none => rw [q1] at h3; exact h3.elim
      | some kvs =>
        cases q2 : keyD d2 with
        | none => rw [q1, q2] at h3; exact h3.elim
        | some kk =>
          rw [q1, q2] at h3
          dsimp only at h3
          obtain ⟨a', vs, ea, rd, rp⟩ := dkO_at s3 ((l2.trans l3).rep r1) q1
          cases ea
          have ey := keyD_rep q2 r2
          subst ey
          rcases rp.val kk with ⟨z1, z2⟩ | ⟨d4, v4, z1, z2, z3⟩
          · rw [z1] at h3
            exact ⟨none, .inl ⟨vs, kk, rd, rfl, z2.symm⟩, on_self s3 h3 r3⟩
          · rw [z1] at h3
            exact ⟨some v4, .inl ⟨vs, kk, rd, rfl, z2.symm⟩, on_self s3 h3 z3⟩
    · exact h1.elim⟩
theorem se_dgetT {kk : Nat} (hu : X.A.units + 1 < cLine) (ho : SE X C o fo) (hk : SA X C es fa) (he : SE X C e fe) (m : M2 X o "get" apos (.Tuple es kk p1) e cpos := by exact ⟨rfl, rfl, rfl, rfl⟩) : SE X C (.Call (.Attribute o "get" apos) [.Tuple es kk p1, e] [] cpos) (eDGetT fo fa fe) :=
  pe_weak (pe_dget2 hu ho (pe_tup hk) he m) fun σ H Q ⟨δ, v, re, eH, h⟩ => ⟨δ, v, re, eH, on_mono (on_bind h) fun d x v1 l1 s1 r1 h1 => by
    split at h1
    · rename_i hs
      obtain ⟨kv0, e0⟩ := isSome_of hs
      obtain ⟨i, a, vs0, rfl, rfl, em, e1, hh, _⟩ := dtO_at s1 r1 e0
      refine ⟨a, rfl, .inr ⟨vs0, .inl hh⟩, δ, v1, re.step l1 s1, rfl, on_mono (on_bind h1) fun ds ys v2 l2 s2 r2 h2 => ?_⟩
      have hl := r2.length
      split at h2
      · rename_i hz
        refine ⟨by omega, fun p hp => ?_⟩
        obtain ⟨l3, s3⟩ := tup_new (xs := ys) s2 hp
        have h2' := on_step l3 h2
        refine ⟨δ, v2.new p (.tup ys), ((re.step l1 s1).step l2 s2).step l3 s3, rfl, on_mono (on_bind (rel := rE X.K C.ct) h2') fun d3 z v4 l4 s4 r4 h4 => ?_⟩
        have hp4 : v4.H p = some (.tup ys) := s4.sub _ _ (l4.g _ _ upd_same)
        cases q1 : dtO v4.st (.ob i) with
        | none => rw [q1] at h4; exact h4.elim
        | some kvs =>
          cases q2 : keysD ds with
          | none => rw [q1, q2] at h4; exact h4.elim
          | some kk =>
            rw [q1, q2] at h4
            dsimp only at h4
            obtain ⟨i', a', vs, ei, ea, em', e1', hh', rp⟩ := dtO_at s4 (((l2.trans l3).trans l4).rep r1) q1
            cases ei
            cases ea
            have ey := keysD_rep q2 r2
            subst ey
            rcases rp.val kk with ⟨z1, z2⟩ | ⟨d4, v5, z1, z2, z3⟩
            · rw [z1] at h4
              exact ⟨none, .inr ⟨vs, kk, p, .inl hh', rfl, hp4, z2.symm⟩, on_self s4 h4 r4⟩
            · rw [z1] at h4
              exact ⟨some v5, .inr ⟨vs, kk, p, .inl hh', rfl, hp4, z2.symm⟩, on_self s4 h4 z3⟩
      · exact h2.elim
    · exact h1.elim⟩
theorem ss_dputK {pos' : Pos} (hu : X.A.units + 1 < cLine) (ho : SE X C o fo) (hk : SE X C k fk) (he : SE X C e fe) (hs : swapsWith e (some (.Subscript o k pos')) pos.line X.env = pure false := by rfl) : SS X C (.Assign [.Subscript o k pos'] e pos) (sDPutK fo fk fe) :=
  ps_weak (ps_dput hu ho hk he hs) fun Dn σ H ⟨δ, v, re, eH, h⟩ => ⟨δ, v, re, eH, on_mono (onS_R re h) fun d z v1 l1 s1 r1 h1 => ⟨δ, v1, re.step l1 s1, rfl, on_mono (onS_R (re.step l1 s1) h1) fun d2 x v2 l2 s2 r2 h2 =>
    ⟨δ, v2, (re.step l1 s1).step l2 s2, rfl, on_mono (onS_R ((re.step l1 s1).step l2 s2) h2) fun d3 y v3 l3 s3 r3 h3 => by
      cases d2 with
      | ob i =>
        cases q2 : keyD d3 with
        | none => rw [q2] at h3; exact h3.elim
        | some kk =>
          rw [q2] at h3
          simp only at h3
          have ey := keyD_rep q2 r3
          subst ey
          cases l3.rep r2 with
          | @ob _ _ _ a em =>
            split at h3
            · rename_i kvs q
              split at h3
              · rename_i hz
                obtain ⟨a', em', _, vs, hh, rp⟩ := s3.obj i _ q rfl
                rw [em] at em'
                cases em'
                have rn := RepP.putK ((l2.trans l3).rep r1) kk rp
                obtain ⟨l4, s4⟩ := put_ok (u := .dK (L2.putK vs kk z)) (o := .dK (putKD kvs kk d)) s3 q rfl em (fun C b fs z => nomatch z) ⟨_, upd_same, rn⟩
                exact ⟨a, _, rfl, .inl ⟨vs, kk, hh, rfl, by rw [← rp.length]; exact hz, rfl⟩, h3 σ (v3.put i a (.dK (L2.putK vs kk z)) (.dK (putKD kvs kk d))) ((((re.step l1 s1).step l2 s2).step l3 s3).step l4 s4) l4 rfl⟩
              · exact h3.elim
            · exact h3.elim
      | _ => exact h3.elim⟩⟩⟩
theorem ss_dputT {pos' : Pos} {kn : Nat} (hu : X.A.units + 1 < cLine) (ho : SE X C o fo) (hk : SA X C es fa) (he : SE X C e fe) (hs : swapsWith e (some (.Subscript o (.Tuple es kn p1) pos')) pos.line X.env = pure false := by rfl) : SS X C (.Assign [.Subscript o (.Tuple es kn p1) pos'] e pos) (sDPutT fo fa fe) :=
  ps_weak (ps_dput hu ho (pe_tup hk) he hs) fun Dn σ H ⟨δ, v, re, eH, h⟩ => ⟨δ, v, re, eH, on_mono (onS_R re h) fun d z v1 l1 s1 r1 h1 => ⟨δ, v1, re.step l1 s1, rfl, on_mono (onS_R (re.step l1 s1) h1) fun d2 x v2 l2 s2 r2 h2 =>
    ⟨δ, v2, (re.step l1 s1).step l2 s2, rfl, on_mono (onS_R ((re.step l1 s1).step l2 s2) h2) fun ds ys v3 l3 s3 r3 h3 => by
      have hl := r3.length
      split at h3
      · rename_i hz
        refine ⟨by omega, fun p hp => ?_⟩
        obtain ⟨l9, s9⟩ := tup_new (xs := ys) s3 hp
        cases d2 with
        | ob i =>
          cases q2 : keysD ds with
          | none => rw [q2] at h3; exact h3.elim
          | some kk =>
            rw [q2] at h3
            simp only at h3
            have ey := keysD_rep q2 r3
            subst ey
            cases (l3.trans l9).rep r2 with
            | @ob _ _ _ a em =>
              split at h3
              · rename_i kvs q
                split at h3
                · rename_i hz2
                  obtain ⟨a', em', _, vs, hh, rp⟩ := s9.obj i _ q rfl
                  rw [em] at em'
                  cases em'
                  have rn := RepP.putK (((l2.trans l3).trans l9).rep r1) kk rp
                  obtain ⟨l4, s4⟩ := put_ok (u := .dT (L2.putK vs kk z)) (o := .dT (putKD kvs kk d)) s9 q rfl em (fun C b fs z => nomatch z) ⟨_, upd_same, rn⟩
                  exact ⟨a, _, rfl, .inr ⟨vs, kk, p, hh, rfl, upd_same, by rw [← rp.length]; exact hz2, rfl⟩, h3 σ ((v3.new p (.tup (kk.map kV))).put i a (.dT (L2.putK vs kk z)) (.dT (putKD kvs kk d))) (((((re.step l1 s1).step l2 s2).step l3 s3).step l9 s9).step l4 s4) (l9.trans l4) rfl⟩
                · exact h3.elim
              · exact h3.elim
        | _ => exact h3.elim
      · exact h3.elim⟩⟩⟩
theorem itOk_vals {K : PySem.W.Frag} {ct : String → Addr} {v : Vw} {a : Addr} {ob : Obj} {vs : List (Key × V)} {kvs : List (Key × D)} (h : v.G a = some (.frz ob (.dK vs))) (r : RepP K ct v.G v.m kvs vs) : ItOk K ct (Itd a ob vs) v (kvs.map (·.2)) where
  go := fun i w l s hi => ⟨s.sub _ _ (l.g _ _ h), by have z := r.length; rw [List.length_map] at hi; omega⟩
  stop := fun i w l s hi => ⟨s.sub _ _ (l.g _ _ h), by have z := r.length; rw [List.length_map] at hi; omega⟩
  yld := fun i w x H' l s hi y => by
    obtain ⟨rfl, k, e⟩ := y
    obtain ⟨x', e', rv⟩ := r.vals.get (List.getElem?_eq_getElem hi)
    rw [List.getElem?_map, e] at e'
    cases e'
    exact ⟨_, w, List.getElem?_eq_getElem hi, rfl, .refl, s, rfl, l.rep rv⟩
theorem si_dvals {tg : Expr} (ho : SE X C o fo) (hbase : attributeBase o "values" X.env (eval o X.env) = eval o X.env := by rfl) (hline : (apos.endLine == cpos.line) = true := by rfl) : SI X C tg (.Call (.Attribute o "values" apos) [] [] cpos) (iDVals fo) :=
  pi_weak (pi_values (pe_lk ho) hbase hline) fun σ H R ⟨δ, v, re, eH, h⟩ => ⟨δ, v, re, eH, on_mono (on_bind h) fun d x v1 l1 s1 r1 h1 => by
    cases d with
    | ob i =>
      simp only at h1
      cases r1 with
      | @ob _ _ _ a em =>
        split at h1
        · rename_i kvs q
          obtain ⟨a', em', _, vs, hh, rp⟩ := s1.obj i _ q rfl
          rw [em] at em'
          cases em'
          refine .inl ⟨a, vs, rfl, hh, fun ob => ⟨a, ob, vs, rfl, upd_same, ?_⟩⟩
          obtain ⟨l2, s2⟩ := lockK_ok (ob := ob) s1 q em hh rp
          exact h1 _ ⟨upd v1.G a (.frz ob (.dK vs)), upd v1.H a (.frz ob (.dK vs)), v1.m, v1.st.set i (.fK kvs)⟩ l2 s2 rfl (itOk_vals upd_same (rp.mono l2.g .refl))
        · rename_i kvs q
          obtain ⟨a', ob, vs, em', hh, rp⟩ := s1.fk i _ q
          rw [em] at em'
          cases em'
          exact .inr ⟨a, ob, vs, rfl, s1.sub _ _ hh, h1 _ v1 .refl s1 rfl (itOk_vals hh rp)⟩
        · exact h1.elim
    | _ => exact h1.elim⟩
end
@[simp] theorem v_eDNewK (δ : Sl) (s : Sto) : eDNewK δ s = .ok (.ob s.length) (s ++ [.dK []]) := id rfl
@[simp] theorem v_eDNewT (δ : Sl) (s : Sto) : eDNewT δ s = .ok (.ob s.length) (s ++ [.dT []]) := id rfl
@[simp] theorem v_eDIx (o k : E) (δ : Sl) (s : Sto) : eDIx o k δ s = (o δ s).bind fun x s1 => (k δ s1).bind fun y s2 => match dkO s2 x, keyD y with
  | some kvs, some k => R.ofO (valD kvs k) s2
  | _, _ => .stk := id rfl
@[simp] theorem v_eDGet2 (o k e : E) (δ : Sl) (s : Sto) : eDGet2 o k e δ s = (o δ s).bind fun x s1 => if (dkO s1 x).isSome = true then ((k δ s1).bind fun y s2 => (e δ s2).bind fun z s3 => match dkO s3 x, keyD y with
  | some kvs, some k => .ok ((valD kvs k).getD z) s3
  | _, _ => .stk) else .stk := id rfl
@[simp] theorem v_eDGetT (o : E) (ks : As) (e : E) (δ : Sl) (s : Sto) : eDGetT o ks e δ s = (o δ s).bind fun x s1 => if (dtO s1 x).isSome = true then ((ks δ s1).bind fun ys s2 => if ys.length ≤ sizeLine then (e δ s2).bind fun z s3 => (match dtO s3 x, keysD ys with
  | some kvs, some k => .ok ((valD kvs k).getD z) s3
  | _, _ => .stk) else .stk) else .stk := id rfl
@[simp] theorem v_sDPutK (o k e : E) (δ : Sl) (s : Sto) : sDPutK o k e δ s = sBind (e δ s) δ fun z s1 => sBind (o δ s1) δ fun x s2 => sBind (k δ s2) δ fun y s3 => match x, keyD y with
  | .ob i, some k => (match s3[i]? with
    | some (.dK kvs) => if kvs.length < sizeLine then .nx δ (s3.set i (.dK (putKD kvs k z))) else .stk
    | _ => .stk)
  | _, _ => .stk := id rfl
@[simp] theorem v_sDPutT (o : E) (ks : As) (e : E) (δ : Sl) (s : Sto) : sDPutT o ks e δ s = sBind (e δ s) δ fun z s1 => sBind (o δ s1) δ fun x s2 => sBind (ks δ s2) δ fun ys s3 => if ys.length ≤ sizeLine then (match x, keysD ys with
  | .ob i, some k => (match s3[i]? with
    | some (.dT kvs) => if kvs.length < sizeLine then .nx δ (s3.set i (.dT (putKD kvs k z))) else .stk
    | _ => .stk)
  | _, _ => .stk) else .stk := id rfl
@[simp] theorem v_iDVals (o : E) (δ : Sl) (s : Sto) : iDVals o δ s = (o δ s).bind fun x s1 => match x with
  | .ob i => match s1[i]? with
    | some (.dK kvs) => .ok (kvs.map (·.2)) (s1.set i (.fK kvs))
    | some (.fK kvs) => .ok (kvs.map (·.2)) s1
    | _ => .stk
  | _ => .stk := id rfl
@[simp] theorem v_eAt (cl : String → Bool) (f : Str) (o : E) (δ : Sl) (s : Sto) : eAt cl f o δ s = (o δ s).bind fun x s1 => match inO s1 x with
  | some (c, fs) => if cl c = true then R.ofO (fs.lookup f) s1 else .stk
  | none => .stk := id rfl
@[simp] theorem v_sSetAt (cl : String → Bool) (f : Str) (o e : E) (δ : Sl) (s : Sto) : sSetAt cl f o e δ s = sBind (e δ s) δ fun y s1 => sBind (o δ s1) δ fun x s2 => match x, inO s2 x with
  | .ob i, some (c, fs) => if cl c = true ∧ fs.length < 1000 then .nx δ (s2.set i (.ins c (putD f y fs))) else .stk
  | _, _ => .stk := id rfl
@[simp] theorem v_eMeth (M : Mt) (m : Str) (o : E) (a : As) (δ : Sl) (s : Sto) : eMeth M m o a δ s = (o δ s).bind fun x s1 => match inO s1 x with
  | some (c, fs) => if (fs.lookup m).isNone = true then (match M c with
    | some F => (a δ s1).bind fun ds s2 => F (x :: ds) s2
    | none => .stk) else .stk
  | none => .stk := id rfl
@[simp] theorem v_eMake (c : String) (F : List D → Sto → R D) (a : As) (δ : Sl) (s : Sto) : eMake c F a δ s = (a δ s).bind fun ds s1 => (F (.ob s1.length :: ds) (s1 ++ [.ins c []])).bind fun r s2 => match r with
  | .non => .ok (.ob s1.length) s2
  | _ => .stk := id rfl
end Gs

/-! GLo: xs.pop(), xs.insert(i, y). -/
namespace Gs
open PySem L2
def ePop (o : E) : E := fun δ s => (o δ s).bind fun x s1 => match lsO s1 x with
  | some xs => (match xs[xs.length - 1]? with
    | some d => .ok d (stO s1 x xs.dropLast)
    | none => .stk)
  | none => .stk
def eIns (o a b : E) : E := fun δ s => (o δ s).bind fun x s1 => if (lsO s1 x).isSome = true then ((a δ s1).bind fun i s2 => (b δ s2).bind fun y s3 => match lsO s3 x, i with
  | some xs, .int k => if xs.length < sizeLine ∧ 0 ≤ k ∧ k < 2 ^ 63 then .ok .non (stO s3 x (xs.take k.toNat ++ [y] ++ xs.drop k.toNat)) else .stk
  | _, _ => .stk) else .stk
theorem RepL.dropLast {K : PySem.W.Frag} {ct : String → Addr} {G : Hp} {m : Nat → Option Addr} : ∀ {ds : List D} {vs : List V}, RepL K ct G m ds vs → RepL K ct G m ds.dropLast vs.dropLast
  | _, _, .nil => .nil
  | _, _, .cons h .nil => .nil
  | _, _, .cons h (.cons h2 r) => .cons h (RepL.dropLast (.cons h2 r))
section
variable {X : Cx} {C : Cc} {pos : Pos} {o a b : Expr} {fo fa fb : E}
theorem se_pop {p2 p3 : Pos} (ho : SE X C o fo) (hbase : attributeBase o "pop" X.env (eval o X.env) = eval o X.env := by rfl) (hline : (p2.endLine == p3.line) = true := by rfl) : SE X C (.Call (.Attribute o "pop" p2) [] [] p3) (ePop fo) :=
  pe_weak (pe_bm0 PySem.F.plainAttrs_list PySem.F.slot_list_pop PySem.F.type_list_pop mt_pop ho hbase hline) fun σ H Q ⟨δ, v, re, eH, h⟩ => by
    refine ⟨δ, v, re, eH, on_mono (on_bind h) fun d x v1 l1 s1 r1 h1 => ?_⟩
    cases e0 : lsO v1.st d with
    | none => rw [e0] at h1; exact h1.elim
    | some xs =>
      rw [e0] at h1
      obtain ⟨i, p, vs, rfl, rfl, em, q0, hh, r0⟩ := lsO_at s1 r1 e0
      simp only at h1
      cases ed : xs[xs.length - 1]? with
      | none => rw [ed] at h1; exact h1.elim
      | some d =>
        rw [ed] at h1
        have hl := r0.length
        obtain ⟨w, ew, rw2⟩ := r0.get ed
        obtain ⟨l3, s3⟩ := stO_ok s1 em q0 r0.dropLast
        exact ⟨.inl ⟨rfl, vs, SqL.of hh⟩, p, vs, w, rfl, rfl, hh, by rw [← hl]; exact ew, h1 w (v1.put i p (.lst vs.dropLast) (.lst xs.dropLast)) l3 s3 rfl rw2⟩
theorem se_ins {p2 p3 : Pos} (ho : SE X C o fo) (ha : SE X C a fa) (hb : SE X C b fb) (hbase : attributeBase o "insert" X.env (eval o X.env) = eval o X.env := by rfl)
    (hfew : ((backTo p3 (starEach [a, b] X.env)).all (fun x => !x.1) && (backToKw p3 (keywordEach [] X.env)).all (fun x => x.1.isSome) && decide ([a, b].length + ([] : List Keyword).length + (if ([] : List Keyword).isEmpty then 0 else 1) < 30)) = true := by rfl)
    (hline : (p2.endLine == p3.line) = true := by rfl) (hst : starEach [a, b] X.env = (false, eval a X.env) :: starEach [b] X.env := by rfl) (hpl : (backTo p3 (starEach [b] X.env)).any (·.1) = false := by rfl) (hst2 : starEach [b] X.env = (false, eval b X.env) :: starEach [] X.env := by rfl) :
    SE X C (.Call (.Attribute o "insert" p2) [a, b] [] p3) (eIns fo fa fb) :=
  pe_weak (pe_bm PySem.F.plainAttrs_list PySem.F.slot_list_insert PySem.F.type_list_insert mt_insert ho (pa_cons ha (pa_cons hb pa_nil hst2) hst) hbase hfew hline hst hpl) fun σ H Q ⟨δ, v, re, eH, h⟩ => by
    refine ⟨δ, v, re, eH, on_mono (on_bind h) fun d x v1 l1 s1 r1 h1 => ?_⟩
    split at h1
    · rename_i hs
      obtain ⟨xs0, e0⟩ := isSome_of hs
      obtain ⟨i, p, vs0, rfl, rfl, em, q0, hh0, _⟩ := lsO_at s1 r1 e0
      refine ⟨.inl ⟨rfl, vs0, SqL.of hh0⟩, δ, v1, re.step l1 s1, rfl, on_mono (on_bind h1) fun y u v2 l2 s2 r2 h2 => ⟨δ, v2, (re.step l1 s1).step l2 s2, rfl, on_mono (on_bind h2) fun y3 u3 v3 l3 s3 r3 h3 => ?_⟩⟩
      cases e1 : lsO v3.st (.ob i) with
      | none => rw [e1] at h3; exact h3.elim
      | some xs =>
        rw [e1] at h3
        obtain ⟨i', p', vs, ei, ep, em', q1, hh, r0⟩ := lsO_at s3 ((l2.trans l3).rep r1) e1
        cases ei
        cases ep
        have hl := r0.length
        cases r2 with
        | int k =>
          simp only at h3
          split at h3
          · rename_i hk
            obtain ⟨l4, s4⟩ := stO_ok s3 em' q1 (((r0.take k.toNat).append (RepL.one r3)).append (r0.drop k.toNat))
            exact ⟨p, vs, k, _, rfl, rfl, hh, by omega, hk.2.1, hk.2.2, h3 .non (v3.put i p (.lst (vs.take k.toNat ++ [u3] ++ vs.drop k.toNat)) (.lst (xs.take k.toNat ++ [y3] ++ xs.drop k.toNat))) l4 s4 rfl .non⟩
          · exact h3.elim
        | _ => exact h3.elim
    · exact h1.elim
end
@[simp] theorem v_ePop (o : E) (δ : Sl) (s : Sto) : ePop o δ s = (o δ s).bind fun x s1 => match lsO s1 x with
  | some xs => (match xs[xs.length - 1]? with
    | some d => .ok d (stO s1 x xs.dropLast)
    | none => .stk)
  | none => .stk := id rfl
@[simp] theorem v_eIns (o a b : E) (δ : Sl) (s : Sto) : eIns o a b δ s = (o δ s).bind fun x s1 => if (lsO s1 x).isSome = true then ((a δ s1).bind fun i s2 => (b δ s2).bind fun y s3 => match lsO s3 x, i with
  | some xs, .int k => if xs.length < sizeLine ∧ 0 ≤ k ∧ k < 2 ^ 63 then .ok .non (stO s3 x (xs.take k.toNat ++ [y] ++ xs.drop k.toNat)) else .stk
  | _, _ => .stk) else .stk := id rfl
end Gs

/-! GSk: xs[a:b:c] of a list. -/
namespace L2
open PySem PySem.Spec PyProof.Rows
/-- the places that are taken -/
def stepIx (n : Nat) (lo hi st : Option Int) : List Nat := sliceRange (sliceBounds lo hi st n).1 (sliceBounds lo hi st n).2.1 (sliceBounds lo hi st n).2.2
def pickIx {α : Type} (xs : List α) (ix : List Nat) : List α := ix.filterMap fun i => xs[i]?
theorem pickIx_vals {xs : List V} {us : List Value} (r : Vals xs us) : ∀ ix : List Nat, Vals (pickIx xs ix) (pickIx us ix)
  | [] => .nil
  | i :: ix => by
    have ih := pickIx_vals r ix
    unfold pickIx at ih ⊢
    rw [List.filterMap_cons, List.filterMap_cons]
    cases e : xs[i]? with
    | none =>
      have e2 := r.none_of e
      rw [e2]
      exact ih
    | some v =>
      obtain ⟨u, e2, rv⟩ := r.get e
      rw [e2]
      exact .cons rv ih
theorem pickIx_len {α : Type} (xs : List α) : ∀ ix : List Nat, (pickIx xs ix).length ≤ ix.length := fun ix => List.length_filterMap_le _ _
def tSlS (K : PySem.W.Frag) (te : TE) (tl th ts : TO) : TE := fun σ H Q => te σ H fun x H1 => tl σ H1 fun l H2 => th σ H2 fun u H3 => ts σ H3 fun st H4 => st ≠ some 0 ∧ ∃ a xs, x = .ref a ∧ SqL K H4 a xs ∧ (pickIx xs (stepIx xs.length l u st)).length ≤ sizeLine ∧
  ∀ p, H4 p = none → Q (.ref p) (upd H4 p (.lst (pickIx xs (stepIx xs.length l u st))))
section
variable {X : Cx}
theorem pe_slS {e : Expr} {lo hi st : Option Expr} {te : TE} {tl th ts : TO} {p3 pos : Pos} (he : PE X e te) (hl : PO X lo tl) (hh : PO X hi th) (hs : PO X st ts) (hm : ∀ ov iv, subscripted (.Slice lo hi st p3) false ov iv = operate [ov, iv] (getItem ov iv) := by intro _ _; with_unfolding_all rfl) : PE X (.Subscript e (.Slice lo hi st p3) pos) (tSlS X.K te tl th ts) := by
  refine ⟨fun pins s σ H Q I h => ?_⟩
  refine Subscript_ (thn (he.run pins s σ H _ I h) fun v s1 ⟨x, H1, I1, r1, q1⟩ => ?_)
  refine wpAny_Slice (thn (hl.run pins s1 σ H1 _ I1 q1) fun vl s2 ⟨l, H2, I2, pl, q2⟩ => thn (hh.run pins s2 σ H2 _ I2 q2) fun vu s3 ⟨u, H3, I3, pu, q3⟩ => thn (hs.run pins s3 σ H3 _ I3 q3) fun vs s4 ⟨o, H4, I4, ps, q4⟩ => ?_)
  have I5 : Inv X pins σ H4 { s4 with heap := s4.heap.push { cls := .type "slice", data := .fields #[vl, vu, vs] } } := I4.kept (t' := s4.toks) fun b ob q => Heap.get?_push_of_some _ q
  obtain ⟨h0, a, xs, ex, hx, hz9, q⟩ := q4
  subst ex
  cases r1
  obtain ⟨its, r, ht, hz⟩ := I5.list hx
  have hlen := r.length
  refine tail_any (ops := [.ref a, .ref s4.heap.objs.size]) ht.isList.typeIs (PySem.slot_list_getitem.lookup) ?_ (hm _ _)
  refine wpAny_getItem_list_slice ht.isList (Heap.IsSliceOf.new _ vl vu vs) pl pu ps h0 ?_ (by rw [List.size_toArray]; omega)
  have e9 : slicePick its.toArray l u o = (pickIx its (stepIx its.length l u o)).toArray := by
    unfold slicePick pickIx stepIx
    simp
  rw [e9, ← hlen]
  refine ⟨.ref _, _, I5.laid (t' := s4.toks) (o := .lst (pickIx xs (stepIx xs.length l u o))) (fun b ob q => Heap.get?_push_of_some _ q) (Nat.le_refl _) ?_, rfl, q _ (I5.hok.fresh (Nat.le_refl _))⟩
  exact ⟨hz9, _, 0, pickIx_vals r _, Heap.get?_push_size _ rfl⟩
end
end L2
namespace Gs
open PySem L2
def eSlS (a : E) (lo hi st : Os) : E := fun δ s => (a δ s).bind fun x s1 => (lo δ s1).bind fun l s2 => (hi δ s2).bind fun h s3 => (st δ s3).bind fun c s4 => match rsv s4 x with
  | .lst xs => if c ≠ some 0 ∧ (pickIx xs (stepIx xs.length l h c)).length ≤ sizeLine then .ok (.lst (pickIx xs (stepIx xs.length l h c))) s4 else .stk
  | _ => .stk
theorem RepL.pick {K : PySem.W.Frag} {ct : String → Addr} {G : Hp} {m : Nat → Option Addr} {ds : List D} {vs : List V} (r : RepL K ct G m ds vs) : ∀ ix : List Nat, RepL K ct G m (pickIx ds ix) (pickIx vs ix)
  | [] => .nil
  | i :: ix => by
    have ih := RepL.pick r ix
    have hl := r.length
    unfold pickIx at ih ⊢
    rw [List.filterMap_cons, List.filterMap_cons]
    cases e : ds[i]? with
    | none =>
      have e2 : vs[i]? = none := by rw [List.getElem?_eq_none_iff] at e ⊢; omega
      rw [e2]
      exact ih
    | some d =>
      obtain ⟨v, e2, rv⟩ := r.get e
      rw [e2]
      exact .cons rv ih
theorem RepL.pick_len {K : PySem.W.Frag} {ct : String → Addr} {G : Hp} {m : Nat → Option Addr} {ds : List D} {vs : List V} (r : RepL K ct G m ds vs) (ix : List Nat) : (pickIx ds ix).length = (pickIx vs ix).length := (r.pick ix).length
section
variable {X : Cx} {C : Cc} {a : Expr} {fa : E} {pos p2 : Pos}
theorem se_slS {lo hi st : Option Expr} {fl fh fs : Os} (ha : SE X C a fa) (hl : SO X C lo fl) (hh : SO X C hi fh) (hs : SO X C st fs) (hm : ∀ ov iv, subscripted (.Slice lo hi st p2) false ov iv = operate [ov, iv] (getItem ov iv) := by intro _ _; with_unfolding_all rfl) : SE X C (.Subscript a (.Slice lo hi st p2) pos) (eSlS fa fl fh fs) :=
  pe_weak (pe_slS ha hl hh hs hm) fun σ H Q ⟨δ, v, re, eH, h⟩ => by
    refine ⟨δ, v, re, eH, on_mono (on_bind h) fun d x v1 l1 s1 r1 h1 => ⟨δ, v1, re.step l1 s1, rfl, on_mono (on_bind h1) fun l y v2 l2 s2 e2 h2 => ?_⟩⟩
    cases e2
    refine ⟨δ, v2, (re.step l1 s1).step l2 s2, rfl, on_mono (on_bind h2) fun u y v3 l3 s3 e3 h3 => ?_⟩
    cases e3
    refine ⟨δ, v3, ((re.step l1 s1).step l2 s2).step l3 s3, rfl, on_mono (on_bind h3) fun c y v4 l4 s4 e4 h4 => ?_⟩
    cases e4
    have t := (((l2.trans l3).trans l4).rep r1).top s4
    cases z : rsv v4.st d with
    | lst xs =>
      rw [z] at h4 t
      cases t with
      | @lst a vs _ p q =>
        simp only at h4
        split at h4
        · rename_i hz
          refine ⟨hz.1, a, vs, rfl, p, ?_, fun cc hc => ?_⟩
          · rw [← q.length, ← q.pick_len]; exact hz.2
          · obtain ⟨l9, s9⟩ := new_ok (o := .lst (pickIx vs (stepIx vs.length l u c))) s4 hc
            refine h4 (.ref cc) _ l9 s9 rfl (.lst (SqL.of upd_same) ?_)
            rw [q.length]
            exact l9.repl (q.pick _)
        · exact h4.elim
    | _ => rw [z] at h4; exact h4.elim
end
@[simp] theorem v_eSlS (a : E) (lo hi st : Os) (δ : Sl) (s : Sto) : eSlS a lo hi st δ s = (a δ s).bind fun x s1 => (lo δ s1).bind fun l s2 => (hi δ s2).bind fun h s3 => (st δ s3).bind fun c s4 => match rsv s4 x with
  | .lst xs => if c ≠ some 0 ∧ (pickIx xs (stepIx xs.length l h c)).length ≤ sizeLine then .ok (.lst (pickIx xs (stepIx xs.length l h c))) s4 else .stk
  | _ => .stk := id rfl
theorem pickIx_map {α β : Type} (f : α → β) (xs : List α) : ∀ ix : List Nat, pickIx (xs.map f) ix = (pickIx xs ix).map f
  | [] => rfl
  | i :: ix => by
    have ih := pickIx_map f xs ix
    unfold pickIx at ih ⊢
    rw [List.filterMap_cons, List.filterMap_cons, List.getElem?_map]
    cases xs[i]? with
    | none => exact ih
    | some v => simp only [Option.map_some, List.map_cons, ih]
end Gs

/-! GSm: sum of a list or a tuple. -/
namespace Gs
open PySem PySem.Spec PyProof.Rows L2
section
variable {prog : Program} {w : World} {A : Around} {E : Value → Shared → Prop} {s : Shared} {l : Addr} {its : List Value} {ns : List Int} {Q : Value → Shared → Prop}
theorem pre_sum (ns : List Int) : ∀ j, preSum (fun i => ns.getD i 0) j = (ns.take j).sum
  | 0 => rfl
  | j + 1 => by
    show preSum _ j + ns.getD j 0 = _
    rw [pre_sum ns j, List.take_add_one]
    cases h : ns[j]? with
    | none => simp [List.getD, h]
    | some x => simp [List.getD, h, List.sum_append]
theorem ints_at {its : List Value} {ns : List Int} (r : IntsAre its ns) : its.length = ns.length ∧ ∀ (i : Nat) (v : Value), its[i]? = some v → ∃ t, v = Value.int (ns.getD i 0) t := by
  induction r with
  | nil => exact ⟨rfl, fun i v h => nomatch h⟩
  | cons n t _ ih =>
    obtain ⟨h1, h2⟩ := ih
    refine ⟨by simp [h1], fun i v hi => ?_⟩
    cases i with
    | zero => simp at hi; exact ⟨_, hi.symm⟩
    | succ i =>
      obtain ⟨t, e⟩ := h2 i v (by simpa using hi)
      exact ⟨t, by simpa [List.getD] using e⟩
theorem sum_tup (hh : A.handled = none) (hl : IsTup s.heap l its.toArray) (hi : IntsAre its ns)
    (h : ∀ h' tk t', (∀ b o, s.heap.get? b = some o → h'.get? b = some o) → Q (.int ns.sum t') { s with heap := h', toks := tk }) : wpAny (model prog w) A (call (.builtin "sum") [.ref l]) Q E s := by
  obtain ⟨hlen, hat⟩ := ints_at hi
  have hlt : l < s.heap.objs.size := by obtain ⟨o, e, _⟩ := hl; exact Heap.lt_size e
  have ht : s.heap.IsTuple l its.toArray := hl
  refine call_sum_walkG (wpAny_pyIter_tuple ht ?_)
  refine ⟨_, _, _, _, _, _, fun i => ns.getD i 0, rfl, Walks.tuple (A := A.in1) hh _ l (Nat.ne_of_lt hlt) its.toArray, ⟨⟨_, Heap.get?_push_size _ rfl, rfl, rfl⟩, ?_⟩, fun b hb => ?_, fun i v hv => hat i v (by simpa using hv), fun h' tk t' hk => ?_⟩
  · obtain ⟨o, ho, r⟩ := ht
    exact ⟨o, Heap.get?_push_of_some _ ho, r⟩
  · show b < (s.heap.push _).objs.size
    rw [Heap.size_push]
    simp only [List.mem_cons, List.not_mem_nil, or_false] at hb
    rcases hb with rfl | rfl
    · exact Nat.lt_succ_self _
    · exact Nat.lt_succ_of_lt hlt
  · have e := pre_sum ns its.toArray.size
    rw [List.size_toArray, hlen, List.take_length] at e
    rw [List.size_toArray, hlen, e]
    refine h h' tk t' fun b o hb => hk b o ?_ (Heap.get?_push_of_some _ hb)
    simp only [List.mem_cons, List.not_mem_nil, or_false]
    exact Nat.ne_of_lt (Heap.lt_size hb)
end
section
variable {X : Cx}
theorem cr_sumT (hc : X.calm = true) : CallR X (.builtin "sum") (fun vs H Q => ∃ (a : Addr) (ns : List Int), vs = [V.ref a] ∧ SqT X.K H a (ns.map V.int) ∧ Q (.int ns.sum) H) := by
  intro pins s σ H vs us Q I r h
  obtain ⟨a, ns, rfl, hs, q⟩ := h
  obtain ⟨its, rv, hl, _⟩ := I.tuple hs
  rw [Vals.ref1 r]
  exact sum_tup (I.ok.hd hc) hl rv.ints fun h' tk t' hk => ⟨.int _, H, I.kept hk, ⟨_, rfl⟩, q⟩
def gSumA : BA
  | [.lst xs] => (intsOf xs).map fun ns => .int ns.sum
  | [.tup xs] => (intsOf xs).map fun ns => .int ns.sum
  | _ => none
theorem b_sumA {ct : String → Addr} (hc : X.calm = true) : CallR X (.builtin "sum") (rDA X.K ct gSumA) := by
  intro pins s σ H xs us Q I r h
  obtain ⟨v0, ds, d, rfl, sr, e, rl, h⟩ := h
  unfold gSumA at e
  split at e
  · rename_i ys
    cases q1 : intsOf ys with
    | none => rw [q1] at e; exact nomatch e
    | some ns =>
      rw [q1] at e
      simp only [Option.map_some, Option.some.injEq] at e
      subst e
      have e2 := intsOf_eq q1
      subst e2
      cases rl with
      | cons r1 r2 =>
        cases r2
        cases r1 with
        | lst p q =>
          have e3 := RepL.of_ints q
          subst e3
          exact cr_sum hc pins s σ _ _ us Q I r ⟨_, ns, rfl, p, h _ v0 .refl sr rfl (.int _)⟩
  · rename_i ys
    cases q1 : intsOf ys with
    | none => rw [q1] at e; exact nomatch e
    | some ns =>
      rw [q1] at e
      simp only [Option.map_some, Option.some.injEq] at e
      subst e
      have e2 := intsOf_eq q1
      subst e2
      cases rl with
      | cons r1 r2 =>
        cases r2
        cases r1 with
        | tup p q =>
          have e3 := RepL.of_ints q
          subst e3
          exact cr_sumT hc pins s σ _ _ us Q I r ⟨_, ns, rfl, sqt_mono sr.sub p, h _ v0 .refl sr rfl (.int _)⟩
  · exact nomatch e
end
@[simp] theorem v_sumA_lst (xs : List D) : gSumA [.lst xs] = (intsOf xs).map fun ns => .int ns.sum := id rfl
@[simp] theorem v_sumA_tup (xs : List D) : gSumA [.tup xs] = (intsOf xs).map fun ns => .int ns.sum := id rfl
end Gs

/-! GLr: a new list times a number, as a new list. -/
namespace Gs
open PySem PySem.Spec PyProof.Rows L2
def fRep (f : Fr) (fb : E) : Fr := fun δ s => (f δ s).bind fun xs s1 => (fb δ s1).bind fun y s2 => match y with
  | .int k => if -(2 ^ 63) ≤ k ∧ k < 2 ^ 63 ∧ xs.length * k.toNat ≤ sizeLine then .ok (List.replicate k.toNat xs).flatten s2 else .stk
  | _ => .stk
section
variable {X : Cx} {C : Cc} {a b : Expr} {f : Fr} {fb : E} {pos : Pos}
theorem reps {K : PySem.W.Frag} {ct : String → Addr} {G : Hp} {m : Nat → Option Addr} {ds : List D} {vs : List V} (h : RepL K ct G m ds vs) : ∀ k : Nat, RepL K ct G m (List.replicate k ds).flatten (List.replicate k vs).flatten
  | 0 => .nil
  | k + 1 => by
    rw [List.replicate_succ, List.replicate_succ, List.flatten_cons, List.flatten_cons]
    exact h.append (reps h k)
theorem sf_rep (ha : SF X C a f) (hb : SE X C b fb) : SF X C (.BinOp a .Mult b pos) (fRep f fb) :=
  pe_weak (pe_op op_rep ha hb) fun σ H Q ⟨δ, v, re, eH, h⟩ => by
    refine ⟨δ, v, re, eH, ?_⟩
    have h : onF X.K C σ v ((f δ v.st).bind fun xs s1 => (fb δ s1).bind fun y s2 => match y with
      | .int k => if -(2 ^ 63) ≤ k ∧ k < 2 ^ 63 ∧ xs.length * k.toNat ≤ sizeLine then .ok (List.replicate k.toNat xs).flatten s2 else .stk
      | _ => .stk) fun _ p v' => Q (.ref p) v'.H := h
    have h0 := onF_bind (rel := fun (_ : List D) (_ : Unit) (_ : Vw) => True) h
    cases q : f δ v.st with
    | stk => rw [q] at h; exact h
    | exc e s => rw [q] at h; exact h
    | ok xs s =>
      rw [q] at h0
      intro p vs v' l sr es hp gp hh no r
      obtain ⟨l2, s2⟩ := frz_new l sr hp gp hh no
      refine ⟨δ, ⟨upd v'.G p (.lst vs), v'.H, v'.m, v'.st⟩, re.step l2 s2, rfl, ?_⟩
      refine on_mono (onF_bind (h0 () ⟨upd v'.G p (.lst vs), v'.H, v'.m, v'.st⟩ l2 s2 es trivial)) fun d2 y v2 l3 s3 r2 h2 => ?_
      have hG : v2.G p = some (.lst vs) := l3.g p _ upd_same
      have hH : v2.H p = some (.lst vs) := s3.sub p _ hG
      have r3 : RepL X.K C.ct v2.G v2.m xs vs := l3.repl (r.mono (same_new gp _) .refl)
      cases r2 with
      | int k =>
        by_cases hc : -(2 ^ 63) ≤ k ∧ k < 2 ^ 63 ∧ xs.length * k.toNat ≤ sizeLine
        · have h3 : onF X.K C σ v2 (if -(2 ^ 63) ≤ k ∧ k < 2 ^ 63 ∧ xs.length * k.toNat ≤ sizeLine then .ok (List.replicate k.toNat xs).flatten v2.st else .stk) fun _ p v' => Q (.ref p) v'.H := h2
          rw [if_pos hc] at h3
          refine ⟨p, k, vs, rfl, rfl, hH, hc.1, hc.2.1, by have := r3.length; rw [← this]; exact hc.2.2, fun c hp => ?_⟩
          obtain ⟨l4, s4, no⟩ := newH (u := .lst (List.replicate k.toNat vs).flatten) s3 hp
          exact h3 c _ ⟨v2.G, upd v2.H c (.lst (List.replicate k.toNat vs).flatten), v2.m, v2.st⟩ l4 s4 rfl hp (s3.free hp) upd_same no (reps r3 k.toNat)
        · have h3 : onF X.K C σ v2 (if -(2 ^ 63) ≤ k ∧ k < 2 ^ 63 ∧ xs.length * k.toNat ≤ sizeLine then .ok (List.replicate k.toNat xs).flatten v2.st else .stk) fun _ p v' => Q (.ref p) v'.H := h2
          rw [if_neg hc] at h3
          exact h3.elim
      | _ => exact h2.elim
end
@[simp] theorem v_fRep (f : Fr) (fb : E) (δ : Sl) (s : Sto) : fRep f fb δ s = (f δ s).bind fun xs s1 => (fb δ s1).bind fun y s2 => match y with
  | .int k => if -(2 ^ 63) ≤ k ∧ k < 2 ^ 63 ∧ xs.length * k.toNat ≤ sizeLine then .ok (List.replicate k.toNat xs).flatten s2 else .stk
  | _ => .stk := id rfl
end Gs

/-! GNe: a list made by a list within a block. -/
namespace Gs
open PySem L2
theorem lookup_rel {env : Env} {x : Str} : ∀ {names : List (Str × NameKind)}, names.lookup x = some .cell ∨ names.lookup x = some .free →
    (names.map fun (n, k) => if (k == NameKind.free && env.scope.kind == .function && env.kindOf n == some .cell) then (n, NameKind.cell) else (n, k)).lookup x = some .cell ∨
    (names.map fun (n, k) => if (k == NameKind.free && env.scope.kind == .function && env.kindOf n == some .cell) then (n, NameKind.cell) else (n, k)).lookup x = some .free
  | [], h => by simp at h
  | (n, k) :: r, h => by
    have ih := @lookup_rel env x r
    simp only [List.map_cons]
    by_cases e : (x == n) = true
    · simp only [List.lookup, e] at h
      by_cases q : (k == NameKind.free && env.scope.kind == .function && env.kindOf n == some .cell) = true
      · left; rw [if_pos q]; simp only [List.lookup, e]
      · rw [if_neg q]; simp only [List.lookup, e]; exact h
    · have e' : (x == n) = false := by simpa using e
      simp only [List.lookup, e'] at h
      split <;> simp only [List.lookup, e'] <;> exact ih h
theorem blkOk_rel {N : List Str} {sc scope : Scope} {own : List (Str × Nat)} {env : Env} (h : BlkOk N sc scope own) : BlkOk N (relabel sc env) scope own :=
  ⟨h.kind, h.uniq, h.ix, fun y hy e => lookup_rel (h.free y hy e), h.own⟩
end Gs

/-! MCh: how many sets: plain mathematics. -/
namespace MCh
def ch : Nat → Nat → Nat
  | _, 0 => 1
  | 0, _ + 1 => 0
  | n + 1, k + 1 => ch n k + ch n (k + 1)
def fac : Nat → Nat
  | 0 => 1
  | n + 1 => fac n * (n + 1)
/-- n (n - 1) .., k of them -/
def fall (n : Nat) : Nat → Nat
  | 0 => 1
  | k + 1 => fall n k * (n - k)
theorem ch_0 (n : Nat) : ch n 0 = 1 := by cases n <;> rfl
theorem ch_small : ∀ {n k : Nat}, n < k → ch n k = 0
  | 0, k + 1, _ => rfl
  | n + 1, k + 1, h => by
    show ch n k + ch n (k + 1) = 0
    rw [ch_small (by omega), ch_small (by omega)]
theorem ch_self : ∀ n : Nat, ch n n = 1
  | 0 => rfl
  | n + 1 => by
    show ch n n + ch n (n + 1) = 1
    rw [ch_self n, ch_small (by omega)]
theorem ch_abs : ∀ n k : Nat, ch n (k + 1) * (k + 1) = ch n k * (n - k)
  | 0, 0 => rfl
  | 0, k + 1 => by
    show 0 * (k + 2) = 0 * (0 - (k + 1))
    simp
  | n + 1, 0 => by
    have ih : ch n 1 * 1 = ch n 0 * n := ch_abs n 0
    rw [ch_0] at ih
    show (ch n 0 + ch n 1) * 1 = ch (n + 1) 0 * (n + 1)
    rw [ch_0, ch_0]
    omega
  | n + 1, k + 1 => by
    have i1 := ch_abs n k
    have i2 := ch_abs n (k + 1)
    show (ch n (k + 1) + ch n (k + 2)) * (k + 2) = (ch n k + ch n (k + 1)) * (n + 1 - (k + 1))
    by_cases h : k + 1 ≤ n
    · obtain ⟨r, rfl⟩ : ∃ r, n = k + 1 + r := ⟨n - (k + 1), by omega⟩
      have e1 : k + 1 + r - k = r + 1 := by omega
      have e2 : k + 1 + r - (k + 1) = r := by omega
      have e3 : k + 1 + r + 1 - (k + 1) = r + 1 := by omega
      rw [e1] at i1
      rw [e2] at i2
      rw [e3, Nat.add_mul, Nat.add_mul, i2, ← i1]
      rw [← Nat.mul_add, ← Nat.mul_add]
      congr 1
      omega
    · have z1 : ch n (k + 1) = 0 := ch_small (by omega)
      have z2 : ch n (k + 2) = 0 := ch_small (by omega)
      rw [z1, z2]
      by_cases h2 : k ≤ n
      · have e : k = n := by omega
        subst e
        simp
      · rw [ch_small (by omega : n < k)]
        simp
theorem ch_fac (n : Nat) : ∀ k : Nat, ch n k * fac k = fall n k
  | 0 => by rw [ch_0]; rfl
  | k + 1 => by
    show ch n (k + 1) * (fac k * (k + 1)) = fall n k * (n - k)
    rw [← ch_fac n k, Nat.mul_comm (fac k), ← Nat.mul_assoc, ch_abs, Nat.mul_assoc, Nat.mul_comm (n - k), ← Nat.mul_assoc]
theorem ch_symm : ∀ (s a b : Nat), a + b = s → ch s a = ch s b
  | s, 0, b, h => by
    have e : b = s := by omega
    subst e
    rw [ch_0, ch_self]
  | s, a + 1, 0, h => by
    have e : a + 1 = s := by omega
    subst e
    rw [ch_0, ch_self]
  | 0, a + 1, b + 1, h => by omega
  | s + 1, a + 1, b + 1, h => by
    show ch s a + ch s (a + 1) = ch s b + ch s (b + 1)
    rw [ch_symm s a (b + 1) (by omega), ch_symm s (a + 1) b (by omega), Nat.add_comm]
theorem fac_pos : ∀ n : Nat, 0 < fac n
  | 0 => Nat.one_pos
  | n + 1 => Nat.mul_pos (fac_pos n) (Nat.succ_pos n)
theorem fall_le (n : Nat) : ∀ k : Nat, fall n k ≤ n ^ k
  | 0 => Nat.le_refl _
  | k + 1 => by
    show fall n k * (n - k) ≤ n ^ (k + 1)
    rw [Nat.pow_succ]
    exact Nat.mul_le_mul (fall_le n k) (Nat.sub_le _ _)
theorem ch_le (n k : Nat) : ch n k ≤ n ^ k := by
  have h := ch_fac n k
  have h2 := fall_le n k
  have h3 := Nat.le_mul_of_pos_right (ch n k) (fac_pos k)
  omega
theorem ch_lt {n k a : Nat} (h : n < 2 ^ a) : ch n k < 2 ^ (a * k + 1) := by
  have h1 := ch_le n k
  have h2 : n ^ k ≤ (2 ^ a) ^ k := Nat.pow_le_pow_left (Nat.le_of_lt h) k
  rw [← Nat.pow_mul] at h2
  have h3 : 2 ^ (a * k) < 2 ^ (a * k + 1) := Nat.pow_lt_pow_right (by omega) (by omega)
  omega
theorem ch_div (n k : Nat) : ch n k * (n - k) / (k + 1) = ch n (k + 1) := by
  rw [← ch_abs, Nat.mul_div_cancel _ (Nat.succ_pos k)]
theorem fall_zero {n : Nat} : ∀ {k : Nat}, n < k → fall n k = 0
  | 0, h => by omega
  | k + 1, h => by
    show fall n k * (n - k) = 0
    by_cases h2 : n < k
    · rw [fall_zero h2, Nat.zero_mul]
    · rw [show n - k = 0 by omega, Nat.mul_zero]
theorem ch_absorb (n k : Nat) : ch (n + 1) (k + 1) * (k + 1) = (n + 1) * ch n k := by
  have h := ch_abs n k
  show (ch n k + ch n (k + 1)) * (k + 1) = _
  rw [Nat.add_mul, h]
  by_cases h2 : k ≤ n
  · rw [← Nat.mul_add, Nat.mul_comm (n + 1)]
    congr 1
    omega
  · rw [ch_small (by omega : n < k)]
    simp
/-- how many bags -/
def bg (n m : Nat) : Nat := ch (n + m - 1) m
theorem bg_step (n k : Nat) : bg n (k + 1) * (k + 1) = bg n k * (n + k) := by
  unfold bg
  by_cases h : n + k = 0
  · have h1 : n = 0 := by omega
    have h2 : k = 0 := by omega
    subst h1 h2
    rfl
  · obtain ⟨N, hN⟩ : ∃ N, n + k = N + 1 := ⟨n + k - 1, by omega⟩
    rw [show n + (k + 1) - 1 = N + 1 by omega, show n + k - 1 = N by omega, ch_absorb, hN, Nat.mul_comm]
theorem bg_0 (n : Nat) : bg n 0 = 1 := ch_0 _
theorem bg_div (n k : Nat) : bg n k * (n + k) / (k + 1) = bg n (k + 1) := by
  rw [← bg_step, Nat.mul_div_cancel _ (Nat.succ_pos k)]
def gd (xs : List Nat) (k : Nat) : Nat := xs.getD k 0
/-- the rank of a set, of its first k numbers -/
def rkF (xs : List Nat) : Nat → Nat
  | 0 => 0
  | k + 1 => rkF xs k + ch (gd xs k) (k + 1)
def rk (xs : List Nat) : Nat := rkF xs xs.length
theorem gd_mem {xs : List Nat} {k : Nat} (h : k < xs.length) : gd xs k ∈ xs := by
  simp [gd, List.getD, h]
/-- a product of numbers -/
def pr (f : Nat → Int) : Nat → Int
  | 0 => 1
  | k + 1 => pr f k * f k
theorem pr_lt {f : Nat → Int} {a : Nat} : ∀ k, (∀ j, j < k → (f j).natAbs < 2 ^ a) → (pr f k).natAbs < 2 ^ (a * k + 1)
  | 0, _ => by
    show (1 : Int).natAbs < 2 ^ (a * 0 + 1)
    simp
  | k + 1, h => by
    show (pr f k * f k).natAbs < _
    rw [Int.natAbs_mul, show a * (k + 1) + 1 = (a * k + 1) + a by rw [Nat.mul_succ]; omega, Nat.pow_add]
    exact Nat.mul_lt_mul'' (pr_lt k fun j hj => h j (by omega)) (h k (by omega))
theorem pr_fall (n : Nat) : ∀ k, pr (fun i => (n : Int) - (i : Nat)) k = (fall n k : Nat)
  | 0 => rfl
  | k + 1 => by
    show pr (fun i => (n : Int) - (i : Nat)) k * ((n : Int) - (k : Nat)) = ((fall n k * (n - k) : Nat) : Int)
    rw [pr_fall n k]
    by_cases h : k ≤ n
    · rw [Int.natCast_mul, Int.ofNat_sub h]
    · rw [fall_zero (by omega)]
      simp
theorem pr_rise (n : Nat) : ∀ k, pr (fun i => (n : Int) + (i : Nat)) k = ((bg n k * fac k : Nat) : Int)
  | 0 => by
    rw [bg_0]
    rfl
  | k + 1 => by
    show pr (fun i => (n : Int) + (i : Nat)) k * ((n : Int) + (k : Nat)) = ((bg n (k + 1) * (fac k * (k + 1)) : Nat) : Int)
    rw [pr_rise n k, Nat.mul_comm (fac k), ← Nat.mul_assoc, bg_step, ← Int.natCast_add, ← Int.natCast_mul, Nat.mul_assoc, Nat.mul_comm (fac k), Nat.mul_assoc]
end MCh

/-! GXf: exceptions with fields: made, caught, read. -/
namespace L2
open PySem PySem.Spec PyProof.Rows
section
variable {X : Cx} {e : Expr} {es : List Expr} {ta : TA} {p1 p2 pos : Pos}
/-- B.__init__(self, ..), B an own class without an __init__ of its own -/
theorem pe_ceinit {x : Str} {B : Addr} {pl : Sem Bool} (hg : Gl X x) (hm : X.mg x = some (.ref B)) (ga : PySem.W.specialIn X.K (.ref B) "__getattribute__" = some (some (.builtin "type.__getattribute__"))) (hT : PySem.W.typeIn X.K (.ref B) = some (.type "type"))
    (rd : PySem.W.readsIn X.K B (.type "type") = true) (vV : PySem.W.findCls X.K (.ref B) (.type "type") "__init__" = some (.val (.builtin "ValueError.__init__"))) (ha : PA X (e :: es) ta)
    (hc : eval (.Call (.Attribute (.Name x p1) "__init__" p2) (e :: es) [] pos) X.env = (do
      let ov ← eval (.Name x p1) X.env
      standAt p2.atName
      let (f, first) ← holding [ov] (getMethod ov "__init__" pl)
      callWith pos f first (backTo pos (starEach (e :: es) X.env)) (backToKw pos (keywordEach [] X.env))) := by rfl) (hdb : (x == ("__debug__" : Str)) = false := by decide)
    (he : starEach (e :: es) X.env = (false, eval e X.env) :: starEach es X.env := by rfl) (hpl : (backTo pos (starEach es X.env)).any (·.1) = false := by rfl) :
    PE X (.Call (.Attribute (.Name x p1) "__init__" p2) (e :: es) [] pos) (tVeI X.K ta) := by
  refine ⟨fun pins s σ H Q I h => ?_⟩
  refine PySem.W.methodCall_KW (ld_glob I hg hm ?_ hdb) hc
  obtain ⟨m, fr⟩ := I.fr
  refine PySem.W.method_of_cls fr I.ok.mod.kin ga (PySem.W.cls_val fr I.ok.mod.kin hT rd vV (by decide +kernel) ?_)
  show wpAny _ _ (callWith pos (Value.builtin "ValueError.__init__") [] (backTo pos (starEach (e :: es) X.env)) []) _ _ _
  refine PyProof.Rows.callWith_method1 (thn (ha.run pos pins _ σ H _ (I.tok _) h) fun us s1 ⟨vs, H1, I1, r1, a, C, ws, ev, hl, T, ea, q⟩ => ?_) he hpl
  subst ev
  cases r1 with
  | @cons _ u0 _ ur ra rw' =>
    obtain rfl : u0 = Value.ref a := ra
    have hlen : ur.length ≤ sizeLine := by
      rw [← Paired.length rw', sizeLine_eq]
      omega
    exact oinit_ok T I1 ea hlen fun s' J => ⟨.non, H1, J, rfl, q⟩
end
end L2
namespace Gs
open PySem L2
/-- an __init__ that keeps its fields ns (the last one stored first in the list) -/
def spXI (K : PySem.W.Frag) (C : Addr) (ns : List Str) : Sp := fun vs H Q E => ∃ (a : Addr) (w : V) (ys : List V), vs = .ref a :: w :: ys ∧ ys.length = ns.length ∧ OexC K C ∧ H a = some (exo a C none) ∧
  ∀ (H' : Hp) (dx : Addr), H dx = none → dx ≠ a → H' a = some (exo a C (some dx)) → H' dx = some (exd dx (ns.zip ys).reverse) → (∀ b, b ≠ a → b ≠ dx → H' b = H b) → Q .non H'
/-- an own exception class with fields -/
structure XF (K : PySem.W.Frag) (mg : Str → Option Value) (ct : String → Addr) (c : String) : Prop where
  g : mg (Str.ofString c) = some (.ref (ct c))
  ox : OexC K (ct c)
  fi : ∃ fI, PySem.W.findIn K (.ref (ct c)) "__init__" = some (some (.ref fI)) ∧ PySem.W.typeIn K (.ref fI) = some (.type "function")
def sRaiseF (c : String) (ns : List Str) (a : As) : S := fun δ s => sBind (a δ s) δ fun ds s1 => match ds with
  | _ :: ys => if ys.length = ns.length ∧ ns.length ≤ 10 ∧ ns ≠ [] then .exc ⟨c, (ns.zip ys).reverse⟩ δ s1 else .stk
  | [] => .stk
theorem repP_rev {κ : Type} {K : PySem.W.Frag} {ct : String → Addr} {G : Hp} {m : Nat → Option Addr} {ds : List (κ × D)} {vs : List (κ × V)} (r : RepP K ct G m ds vs) : RepP K ct G m ds.reverse vs.reverse := by
  induction r with
  | nil => exact .nil
  | cons h _ ih =>
    rw [List.reverse_cons, List.reverse_cons]
    exact ih.append (.cons h .nil)
section
variable {X : Cx} {C : Cc}
theorem ss_raiseF {c : String} {cx : Str} {fI : Addr} {fd : FuncData} {ps ns : List Str} {k : Nat} {e : Expr} {es : List Expr} {fa : As} {p pos1 pos : Pos} (hcx : Str.ofString c = cx) (hc : X.calm = true) (tk : Takes X C.W) (T : OexC X.K (C.ct c)) (iC : PySem.W.findIn X.K (.ref (C.ct c)) "__init__" = some (some (.ref fI)))
    (tI : PySem.W.typeIn X.K (.ref fI) = some (.type "function")) (F1 : FnOk X.prog X.w X.K X.mg X.base (L2.CX X.prog X.w) k fI fd ps (spXI X.K (C.ct c) ns)) (hr : Room (k + 1) X.A) (hb : Binds X.K fd ps []) (hg : Gl X cx) (hm : X.mg cx = some (.ref (C.ct c)))
    (ha : SA X C (e :: es) fa) (hdb : (cx == ("__debug__" : Str)) = false := by decide) (he : starEach (e :: es) X.env = (false, eval e X.env) :: starEach es X.env := by rfl) (hpl : (backTo pos1 (starEach es X.env)).any (·.1) = false := by rfl) :
    SS X C (.Raise (some (.Call (.Name cx p) (e :: es) [] pos1)) none pos) (sRaiseF c ns fa) := by
  refine ps_weak (ps_raise hc tk (pmk_oex (CX := L2.CX X.prog X.w) T iC tI F1 hr hb .nil (passes_call (E := fun _ _ _ => False) tk (fun _ _ _ _ z => z.elim)) hg hm ha hdb he hpl)) fun Dn σ H ⟨δ, v, re, eH, h⟩ => ?_
  refine ⟨δ, v, re, eH, ?_⟩
  refine on_mono (onS_R re h) fun ds vs v1 l1 s1 r1 h1 => ?_
  cases r1 with
  | nil => exact h1.elim
  | @cons _ _ d0 w ys us rw ry =>
    simp only at h1
    split at h1
    · rename_i hz
      obtain ⟨hz1, hz2, hz3⟩ := hz
      have hl := ry.length
      refine ⟨by simp only [List.length_cons]; omega, fun a na => ⟨a, w, us, by simp, by omega, T, upd_same, fun H' dx hd hda h2 h3 h4 => ⟨rfl, dx, _, h2, h3, ?_, ?_⟩⟩⟩
      · rwa [upd_ne hda] at hd
      · have hd1 : v1.H dx = none := by rwa [upd_ne hda] at hd
        have eH : upd (del H' a) dx (.xd (ns.zip us).reverse) = (v1.new dx (.xd (ns.zip us).reverse)).H := by
          funext b
          show upd (del H' a) dx _ b = upd v1.H dx _ b
          by_cases b1 : b = dx
          · rw [b1, upd_same, upd_same]
          · rw [upd_ne b1, upd_ne b1]
            by_cases b2 : b = a
            · rw [b2, del_same, na]
            · rw [del_ne b2, h4 b b2 b1, upd_ne b2]
        obtain ⟨l2, s2⟩ := new_ok (o := .xd (ns.zip us).reverse) s1 hd1
        rw [eH]
        refine h1 (.ref (C.ct c)) (some dx) σ (v1.new dx (.xd (ns.zip us).reverse)) ((re.step l1 s1).step l2 s2) l2 rfl ⟨rfl, .inr ⟨?_, dx, _, rfl, upd_same, ?_⟩⟩
        · intro z
          have z2 := congrArg List.length z
          simp only [List.length_reverse, List.length_zip, List.length_nil] at z2
          have : 0 < ns.length := List.length_pos_iff.mpr hz3
          omega
        · exact repP_rev (RepP.zip (l2.repl ry))
    · exact h1.elim
end
end Gs

/-! GXs: except suites in which the exception is a thing as others; its fields; isinstance. -/
namespace L2
open PySem PySem.Spec PyProof.Rows
/-- what the clause wishes: its suite runs with the exception told at a -/
def wSu (K : PySem.W.Frag) (c : Value) (i : Nat) (ts : Addr → Value → Option Addr → TS) (Wo : WX) (D : Ends) : WX := fun cls d σ H => ∃ b, PySem.W.exmOne K cls c = some b ∧
  (b = true → ∀ a, H a = none → ts a cls d { nx := fun σ H => D.nx (σ.set i none) H, rt := D.rt, bk := fun σ H => D.bk (σ.set i none) H, ct := fun σ H => D.ct (σ.set i none) H } (σ.set i (some (.ref a))) (upd H a (EvK cls d a))) ∧ (b = false → Wo cls d σ H)
section
variable {X : Cx} {pins : List (Addr × Obj)} {σ : St} {H : Hp} {s : Shared}
theorem Inv.suite0 (I : Inv X pins σ H s) (a : Addr) : Inv (X.suite a (X.pn ++ pins)) [] σ H s :=
  ⟨I.ok.suite _ _, I.os, I.bare, I.base, I.loc, I.cell, I.free, I.freeC, fun p hp => I.pin p (by rw [List.append_nil] at hp; exact hp), I.hok, I.len⟩
theorem Inv.unsuite0 {a : Addr} {pn' : List (Addr × Obj)} (I : Inv (X.suite a (X.pn ++ pins)) pn' σ H s) (ok : X.Ok) : Inv X pins σ H s :=
  ⟨ok, I.os, I.bare, I.base, I.loc, I.cell, I.free, I.freeC, fun p hp => I.pin p (List.mem_append_left _ hp), I.hok, I.len⟩
end
section
variable {X : Cx} {x n : Str} {c : Value} {i : Nat} {body suite : List Stmt} {st₀ : Stmt} {np pos pos' : Pos} {tb : WX → TS} {ts : Addr → Value → Option Addr → TS} {Wo : WX}
theorem ps_try_suite (hs : X.stack = X.env :: X.outer) (hf : X.env.frame = some X.env.locals) (hN : X.N.Nodup) (hi : X.N[i]? = some n) (hln : X.env.kindOf n = some .local) (hx0 : X.ex = []) (hc : Names X x c) (tk : Takes X Wo)
    (hb : ∀ (W : WX) (pn : List (Addr × Obj)) (xe : Value → Shared → Prop), Takes (X.tr pn xe) W → PassesOwn (model X.prog X.w) X.A X.env xe → PSs (X.tr pn xe) body (tb W))
    (hsu : ∀ (a : Addr) (cls : Value) (d : Option Addr) (pn : List (Addr × Obj)), PSs (X.suite a pn) (st₀ :: suite) (ts a cls d)) :
    PS X (.Try body [.ExceptHandler (some (.Name x np)) (some n) (st₀ :: suite) pos'] [] [] pos) (fun D σ H => tb (wSu X.K c i ts Wo D) D σ H) := by
  refine ⟨fun pins s σ H D I0 hpre => ?_⟩
  have okX := I0.ok
  have frames : X.A.frames = some (X.env :: X.outer) := by rw [okX.frames, hs]
  refine wpAny_Try_except ?_
  have bodyRun := (hb (wSu X.K c i ts Wo D) (X.pn ++ pins) (fun e z1 => wpAny (model X.prog X.w) X.A (noteFrame e X.env) (fun _ z2 => wpAny (model X.prog X.w) X.A (setFlight e none)
      (fun _ z3 => wpAny (model X.prog X.w) X.A (handleBy e X.env [.ExceptHandler (some (.Name x np)) (some n) (st₀ :: suite) pos']) (SP X pins D) X.xe z3) X.xe z2) X.xe z1) (fun u z xx => ?_) PassesOwn.looking).run [] s σ H D (I0.toTry _) hpre
  · refine wpAny_mono bodyRun (fun fl z1 hsp => ?_) (fun _ _ he => he)
    cases fl with
    | next =>
      obtain ⟨σ1, H1, J1, q1⟩ := hsp
      exact wpAny_execs_nil ⟨σ1, H1, J1.ofTry okX, q1⟩
    | brk =>
      obtain ⟨σ1, H1, J1, q1⟩ := hsp
      exact ⟨σ1, H1, J1.ofTry okX, q1⟩
    | cont =>
      obtain ⟨σ1, H1, J1, q1⟩ := hsp
      exact ⟨σ1, H1, J1.ofTry okX, q1⟩
    | ret u =>
      obtain ⟨v1, σ1, H1, J1, r1, q1⟩ := hsp
      exact ⟨v1, σ1, H1, J1.ofTry okX, r1, q1⟩
  · obtain ⟨a, B, sI, pins', σc, Hc, cls, d, rfl, Jt, nb, up, sky, na, osE, ag, b, hb1, hyes, hno⟩ := xx
    have J : Inv X pins σc Hc sI := Jt.ofTry okX
    have skyE : Sky B (X.env :: X.outer) a (Zc cls d) X.env.locals z.heap := by rw [← hs]; exact sky
    have nB : B.get? a = none := by rcases skyE with q | q | q <;> exact q.2.1
    show wpAny (model X.prog X.w) X.A (noteFrame (.ref a) X.env) _ _ _
    refine Sky.land Zc.steady frames hf skyE fun hp3 fly3 up3 => ?_
    have K3 : Inv X pins σc Hc { z with heap := hp3 } := J.landed nb fly3.1 (up.trans up3) osE ag
    obtain ⟨oe3, vs3, g3, zc3, d3⟩ := fly3.there
    have notFrame : a ∉ frs (X.env :: X.outer) := fun hm => by
      obtain ⟨_, o', e', hnf⟩ := fly3.2.2.1.mem hm
      rw [g3] at e'
      cases e'
      exact hnf _ d3
    have nL : a ≠ X.env.locals := fun w => notFrame (List.mem_filterMap.mpr ⟨X.env, List.mem_cons_self, by rw [hf, w]⟩)
    have nF : a ∉ X.fs := fun hm => by
      obtain ⟨e, he, q⟩ := List.mem_filterMap.mp hm
      exact notFrame (List.mem_filterMap.mpr ⟨e, List.mem_cons_of_mem _ he, q⟩)
    have nI : sI.heap.get? a = none := by
      cases w : sI.heap.get? a with
      | none => rfl
      | some ob =>
        have w2 := nb a ob w (by rw [hs]; exact notFrame)
        rw [nB] at w2
        cases w2
    have n0 : X.s_0.heap.get? a = none := by
      cases w : X.s_0.heap.get? a with
      | none => rfl
      | some ob =>
        obtain ⟨o', w2⟩ := J.base.there a ob w (by rw [hx0]; simp)
        rw [nI] at w2
        cases w2
    have npin : ∀ p ∈ X.pn ++ pins, p.1 ≠ a := fun p hp w => by
      have w2 := (J.pin p hp).1
      rw [w, nI] at w2
      cases w2
    refine wpAny_handleBy_cons (codeAny_handlers_test ?_) (by intro q; cases q)
    have LT : PySem.W.Looks (model X.prog X.w) hp3 (typeOf (.ref a)) cls := fun A Q E s k q => wpAny_typeOf_ref (k _ _ g3) (by rw [zc3.1]; exact q)
    have LM := PySem.W.exm_one (M := model X.prog X.w) (K3.kIn) LT hb1
    have S3 := K3.suite g3 d3 na nL nF
    have clsNamed : ∀ {Q : Value → Shared → Prop} {E : Value → Shared → Prop}, Q c { z with heap := hp3 } → wpAny (model X.prog X.w) (X.A.mark (some (.ref a))) (eval (.Name x np) X.env) Q E { z with heap := hp3 } := fun {Q E} q => by
      obtain ⟨hgl, hdbg, hm | ⟨hm, hv, hnn⟩⟩ := hc
      · exact ld_glob (X := X.suite a ((a, oe3) :: (X.pn ++ pins))) S3 hgl hm q hdbg
      · exact ld_blt (X := X.suite a ((a, oe3) :: (X.pn ++ pins))) S3 hgl hm hv q hnn hdbg
    refine clsNamed (LM.here ?_)
    cases b with
    | false =>
      show wpAny _ X.A (handleBy (.ref a) X.env []) _ _ _
      refine wpAny_handleBy_nil ?_
      obtain ⟨k1, k2, k3, oe, vs, T, oT, tsl, he, hz, hd, h1, hr⟩ := id fly3
      unfold PySem.passOn
      refine wpAny_bind (wpAny_field he hd h1 ?_)
      rw [if_neg (show ¬ ((Value.ref T == Value.none) = true) from by simp)]
      have fin : wpAny (model X.prog X.w) X.A (setFlight (.ref a) X.env.frame) (fun _ z4 => wpAny (model X.prog X.w) X.A (throw (.ref a) : Sem Flow) (SP X pins D) X.xe z4) X.xe { z with heap := hp3 } := by
        rw [hf]
        refine HandSPX.setFlight_upZ fly3 fun h4 hh4 up4 => wpAny_throw (tk _ _ ?_)
        exact ⟨a, B, sI, pins, σc, Hc, cls, d, rfl, J, nb, (up.trans up3).trans up4, .inr (.inr (by rw [hs]; exact hh4)), na, osE, ag, hno rfl⟩
      first
        | exact wpAny_bind (wpAny_pure (wpAny_bind fin))
        | exact wpAny_bind fin
    | true =>
      refine codeAny_handlers_suite_as ?_
      refine HandSPX.lands_againZ fly3 fun hp4 fly4 up4 => ?_
      have K4 : Inv X pins σc Hc { z with heap := hp4 } := J.landed nb fly4.1 ((up.trans up3).trans up4) osE ag
      obtain ⟨oe4, vs4, g4, zc4, d4⟩ := fly4.there
      have T4 := K4.track g4 d4 na n0 nL npin (evK_ok g4 zc4 d4)
      have S4 := T4.suite0 a
      refine store_ok (X := X.suite a (X.pn ++ pins)) (v := .ref a) S4 hN hi (.inl hln) rfl (fun z5 S5 => ?_) (.inr hln)
      have run := (hsu a cls d (X.pn ++ pins)).run [] z5 _ (upd Hc a (EvK cls d a)) _ S5 (hyes rfl a na)
      refine wpAny_mono run (fun fl z6 hsp => ?_) (fun _ _ w => False.elim w)
      have leave : ∀ {σ6 : St} {H6 : Hp} {Q : Shared → Prop}, Inv (X.suite a (X.pn ++ pins)) [] σ6 H6 z6 → (∀ z7, Inv X pins (σ6.set i none) H6 z7 → Q z7) →
          wpAny (model X.prog X.w) X.A (do bindName X.env n .none; unbindBehindTheSuite X.env n pos') (fun _ z7 => Q z7) X.xe z6 := fun {σ6 H6 Q} S6 hq => gone_ok (S6.unsuite0 okX) hN hi hln hq
      cases fl with
      | next =>
        obtain ⟨σ6, H6, S6, q6⟩ := hsp
        exact leave S6 fun z7 J7 => ⟨_, _, J7, q6⟩
      | brk =>
        obtain ⟨σ6, H6, S6, q6⟩ := hsp
        exact leave S6 fun z7 J7 => ⟨_, _, J7, q6⟩
      | cont =>
        obtain ⟨σ6, H6, S6, q6⟩ := hsp
        exact leave S6 fun z7 J7 => ⟨_, _, J7, q6⟩
      | ret u =>
        obtain ⟨v6, σ6, H6, S6, r6, q6⟩ := hsp
        exact leave S6 fun z7 J7 => ⟨_, _, _, J7, r6, q6⟩
end
end L2
namespace Gs
open PySem L2
def evD (e : Ex) : D := .ev e.cls (e.fs.map (·.1)) (e.fs.map (·.2))
theorem repx_ev {K : PySem.W.Frag} {ct : String → Addr} {v : Vw} {e : Ex} {cls : Value} {dd : Option Addr} {a : Addr} (sr : SR K ct v) (rx : RepX K ct v e cls dd) (na : v.H a = none) : Rep K ct (v.new a (EvO cls dd a)).G v.m (evD e) (.ref a) := by
  obtain ⟨hc, hf⟩ := rx
  have ga : v.G a = none := sr.free na
  rcases hf with ⟨h1, h2⟩ | ⟨h1, d, fs, h2, h3, h4⟩
  · subst h2
    have : evD e = .ev e.cls [] [] := by unfold evD; rw [h1]; rfl
    rw [this]
    exact .ev0 (by rw [← hc]; exact upd_same)
  · subst h2
    have hd : d ≠ a := fun z => by rw [z, ga] at h3; cases h3
    have k := h4.keys
    refine .ev (d := d) (vs := fs.map (·.2)) (fun z => h1 (List.map_eq_nil_iff.mp z)) (by rw [← hc]; exact upd_same) ?_ (by simp) ?_
    · show upd v.G a _ d = _
      rw [upd_ne hd, h3, k, zip_unzip]
    · exact (h4.vals).mono (same_new ga _) .refl
/-- try: body except C as e: suite -/
def sTryS (t : String → Option Bool) (i : Nat) (fb fs : S) : S := fun δ s => match fb δ s with
  | .exc e δ' s' => (match t e.cls with
    | some true => (match fs (δ'.set i (some (evD e))) s' with
      | .nx δ2 s2 => .nx (δ2.set i none) s2
      | .bk δ2 s2 => .bk (δ2.set i none) s2
      | .ct δ2 s2 => .ct (δ2.set i none) s2
      | .rt d s2 => .rt d s2
      | _ => .stk)
    | some false => .exc e δ' s'
    | none => .stk)
  | r => r
section
variable {X : Cx} {C : Cc}
theorem ss_try_suite {x n : Str} {c : Value} {t : String → Option Bool} {i : Nat} {body suite : List Stmt} {b₀ : Stmt} {np pos' pos : Pos} {fb fs : S} (hs : X.stack = X.env :: X.outer) (hf : X.env.frame = some X.env.locals) (hN : X.N.Nodup) (hi : X.N[i]? = some n) (hln : X.env.kindOf n = some .local) (hx0 : X.ex = [])
    (hc : Names X x c) (tk : Takes X C.W) (ht : ∀ s b, t s = some b → PySem.W.exmOne X.K (.ref (C.ct s)) c = some b)
    (hb : ∀ (W : WX) (pn : List (Addr × Obj)) (xe : Value → Shared → Prop), Takes (X.tr pn xe) W → PassesOwn (model X.prog X.w) X.A X.env xe → SSs (X.tr pn xe) { C with W := W } body fb)
    (hsu : ∀ (a : Addr) (pn : List (Addr × Obj)), SSs (X.suite a pn) C.nox (b₀ :: suite) fs) :
    SS X C (.Try body [.ExceptHandler (some (.Name x np)) (some n) (b₀ :: suite) pos'] [] [] pos) (sTryS t i fb fs) := by
  refine ⟨fun pins s σ H Dn I h => ?_⟩
  refine (ps_try_suite (tb := fun W => liftS X.K { C with W := W } fb) (ts := fun a cls d => liftS X.K C.nox fs) hs hf hN hi hln hx0 hc tk hb fun a cls d pn => hsu a pn).run pins s σ H Dn I ?_
  obtain ⟨δ, v, re, eH, h⟩ := h
  refine ⟨δ, v, re.wish2, eH, ?_⟩
  unfold sTryS at h
  cases e : fb δ v.st with
  | nx δ' s' => rw [e] at h; exact fun σ' v' re l es => h σ' v' re.wish2 l es
  | bk δ' s' => rw [e] at h; exact fun σ' v' re l es => h σ' v' re.wish2 l es
  | ct δ' s' => rw [e] at h; exact fun σ' v' re l es => h σ' v' re.wish2 l es
  | rt d s' => rw [e] at h; exact h
  | stk => rw [e] at h; exact h.elim
  | exc ex δ' s' =>
    rw [e] at h
    simp only at h
    intro cls dd σ' v' re' l' es rx
    cases q : t ex.cls with
    | none => rw [q] at h; exact h.elim
    | some bb =>
      rw [q] at h
      refine ⟨bb, by rw [rx.1]; exact ht _ _ q, fun hb => ?_, fun hb => ?_⟩
      · subst hb
        intro a ha
        simp only at h
        obtain ⟨l2, s2⟩ := new_ok (o := EvO cls dd a) re'.sr ha
        have rep := repx_ev re'.sr rx ha
        have l3 := l'.trans l2
        refine ⟨δ'.set i (some (evD ex)), v'.new a (EvO cls dd a), ((re'.step l2 s2).setV i rep).wish2, rfl, ?_⟩
        have es2 : (v'.new a (EvO cls dd a)).st = s' := es
        rw [es2]
        cases ef : fs (δ'.set i (some (evD ex))) s' with
        | nx δ2 s2 => rw [ef] at h; exact fun σ2 w re2 l4 e4 => h _ w ((re2.setU i none).wish2) (l3.trans l4) e4
        | bk δ2 s2 => rw [ef] at h; exact fun σ2 w re2 l4 e4 => h _ w ((re2.setU i none).wish2) (l3.trans l4) e4
        | ct δ2 s2 => rw [ef] at h; exact fun σ2 w re2 l4 e4 => h _ w ((re2.setU i none).wish2) (l3.trans l4) e4
        | rt d s2 => rw [ef] at h; exact fun x w l4 s4 e4 r4 => h x w l4 s4 e4 r4
        | exc _ _ _ => rw [ef] at h; exact h.elim
        | stk => rw [ef] at h; exact h.elim
      · subst hb
        exact h cls dd σ' v' re'.wish2 l' es rx
end
@[simp] theorem v_sTryS (t : String → Option Bool) (i : Nat) (fb fs : S) (δ : Sl) (s : Sto) : sTryS t i fb fs δ s = (match fb δ s with
  | .exc e δ' s' => (match t e.cls with
    | some true => (match fs (δ'.set i (some (evD e))) s' with
      | .nx δ2 s2 => .nx (δ2.set i none) s2
      | .bk δ2 s2 => .bk (δ2.set i none) s2
      | .ct δ2 s2 => .ct (δ2.set i none) s2
      | .rt d s2 => .rt d s2
      | _ => .stk)
    | some false => .exc e δ' s'
    | none => .stk)
  | r => r) := id rfl
end Gs
/-! ### fields of a kept exception; isinstance -/
namespace L2
open PySem PySem.Spec PyProof.Rows
theorem pe_evf {X : Cx} {e : Expr} {te : TE} {pos : Pos} {n : Str} (he : PE X e te) (hb : attributeBase e n X.env (eval e X.env) = eval e X.env := by rfl) :
    PE X (.Attribute e n pos) (fun σ H Q => te σ H fun x H1 => ∃ (a C dd : Addr) (fs : List (Str × V)) (v : V), x = .ref a ∧ XfC X.K C ∧ PySem.W.findIn X.K (.ref C) n = some none ∧ H1 a = some (EvK (.ref C) (some dd) a) ∧ H1 dd = some (.xd fs) ∧ fs.lookup n = some v ∧ Q v H1) := by
  refine ⟨fun pins s σ H Q I h => ?_⟩
  refine attr_of hb (thn (he.run pins s σ H _ I h) fun u s1 hh => ?_)
  obtain ⟨x, H1, I1, rx, a, C, dd, fs, v, ex, T, hno, eh, ea, l, q⟩ := hh
  subst ex
  obtain rfl : u = Value.ref a := rx
  obtain ⟨⟨oe, vs, ha, hz, hd⟩, _⟩ := (show ObjOk X.prog X.w H1 s1.heap a (EvK (.ref C) (some dd) a) from I1.hok a _ eh)
  have hx : ObjOk X.prog X.w H1 s1.heap dd (.xd fs) := I1.hok dd _ ea
  obtain ⟨mA, hns, hr⟩ := hx
  obtain ⟨od, ho, hl⟩ := lookIn_ns hns
  obtain ⟨u, hu, ru⟩ := RelO.some_of (v := v) (o := mA n) (by rw [← l]; exact hr n)
  have J : PySem.W.InstAt s1.heap a oe C (some od) := ⟨ha, hz.1, by unfold PySem.W.notCls; rw [hd] <;> rfl, by rw [hz.2]; exact ho⟩
  exact HandSPX.exc_get I1.kIn J T.ga T.gg T.exC (PySem.W.findObj_own T.hdC hno rfl (by rw [hl, hu])) (handed_of ru) ⟨v, H1, I1.tok _, ru, q⟩
end L2
namespace Gs
open PySem L2
/-- what is known of the classes whose field n is read -/
def XFd (K : PySem.W.Frag) (ct : String → Addr) (n : Str) (t : String → Bool) : Prop := ∀ c, t c = true → XfC K (ct c) ∧ PySem.W.findIn K (.ref (ct c)) n = some none
def gFdE (n : Str) (t : String → Bool) : D → Option D
  | .ev c ks ds => if t c = true then (ks.zip ds).lookup n else none
  | _ => none
def eFdE (n : Str) (t : String → Bool) (f : E) : E := fun δ s => (f δ s).bind fun d s1 => R.ofO (gFdE n t d) s1
section
variable {X : Cx} {C : Cc}
theorem se_evf {e : Expr} {f : E} {n : Str} {pos : Pos} {t : String → Bool} (ht : XFd X.K C.ct n t) (he : SE X C e f) (hb : attributeBase e n X.env (eval e X.env) = eval e X.env := by rfl) : SE X C (.Attribute e n pos) (eFdE n t f) :=
  pe_weak (pe_evf he hb) fun σ H Q ⟨δ, v, re, eH, h⟩ => ⟨δ, v, re, eH, on_mono (on_bind h) fun d x v1 l1 s1 r1 h1 => by
    obtain ⟨z, ez, h9⟩ := on_ofO h1
    cases r1 with
    | ev0 hG =>
      simp only [gFdE] at ez
      split at ez <;> simp at ez
    | @ev _ _ a dd vs c ks ds hn hG hG2 hl hr =>
      simp only [gFdE] at ez
      split at ez
      · rename_i tc
        obtain ⟨T, hno⟩ := ht c tc
        have rp : RepP X.K C.ct v1.G v1.m (ks.zip ds) (ks.zip vs) := RepP.zip hr
        rcases rp.lookup (x := n) with ⟨q1, _⟩ | ⟨d1, y1, q1, q2, q3⟩
        · rw [q1] at ez; cases ez
        · rw [q1] at ez
          cases ez
          exact ⟨a, C.ct c, dd, _, y1, rfl, T, hno, s1.sub _ _ hG, s1.sub _ _ hG2, q2, h9 _ v1 .refl s1 rfl q3⟩
      · cases ez
    | _ => cases ez⟩
/-! isinstance of an exception, with fields or without -/
def rIsEw (K : PySem.W.Frag) : List V → Hp → VK → Prop := fun xs H Q => ∃ (a D : Addr) (dd : Addr) (fs : List (Str × V)) (c : V) (cv : Value) (b : Bool), xs = [.ref a, c] ∧ ClsV c cv ∧ H a = some (EvO (.ref D) (some dd) a) ∧ H dd = some (.xd fs) ∧ ExcC K D ∧ PySem.W.kitOne K (.ref D) cv = some b ∧ Q (.bl b) H
theorem call_isEw : CallR X (.builtin "isinstance") (rIsEw X.K) := by
  intro pins s σ H xs us Q I r h
  obtain ⟨a, D, dd, fs, c, cv, b, rfl, hcv, hH, hdd, EC, e, q⟩ := h
  cases r with
  | cons rx rr =>
    cases rr with
    | cons rt rr =>
      cases rr
      cases rx
      have ec := hcv.eq rt
      subst ec
      obtain ⟨⟨oe, vs, hget, hz, hv⟩, _⟩ := (show ObjOk X.prog X.w H s.heap a (EvO (.ref D) (some dd) a) from I.hok a _ hH)
      have hx : ObjOk X.prog X.w H s.heap dd (.xd fs) := I.hok dd _ hdd
      obtain ⟨mA, hns, hr⟩ := hx
      obtain ⟨od, ho, hl⟩ := lookIn_ns hns
      have J : PySem.W.InstAt s.heap a oe D (some od) := ⟨hget, hz.1, by unfold PySem.W.notCls; rw [hv] <;> rfl, by rw [hz.2]; exact ho⟩
      have hcl : (PySem.W.clsIn X.K D).isSome = true := by
        have hd := EC.hd
        unfold PySem.W.hasDictIn at hd
        cases q : PySem.W.clsIn X.K D with
        | some c => rfl
        | none => rw [q] at hd; simp at hd
      exact PySem.W.kia_one (PySem.W.kitx_exc hcl EC.hg EC.hk EC.hs EC.ha EC.hn EC.ht EC.hm) I.kIn J e (fun z => nomatch z) fun tk => ⟨.bl b, H, I.kept (t' := tk) fun _ _ z => z, rfl, q⟩
theorem call_isV : CallR X (.builtin "isinstance") (fun xs H Q => rIsi X.K xs H Q ∨ rIsEv X.K xs H Q ∨ rIsEw X.K xs H Q) := fun pins s σ H xs us Q I r h =>
  h.elim (call_isi pins s σ H xs us Q I r) fun h => h.elim (call_isEv pins s σ H xs us Q I r) (call_isEw pins s σ H xs us Q I r)
/-- as gIsC, of exceptions with fields, too -/
def gIsD (tb : String → Option Bool) : B1
  | .non => some (.bl false)
  | .ev c _ _ => (tb c).map .bl
  | _ => none
theorem se_isD {C : Cc} {a : Expr} {fa : E} {pf pn pos : Pos} {nx : Str} {cV : V} {cv : Value} {tb : String → Option Bool} (ha : SE X C a fa) (hg : Gl X "isinstance") (hm : X.mg "isinstance" = none) (hc : PE X (.Name nx pn) (tC cV)) (hk : ClsV cV cv) (hE : EI X.K C.ct tb cv)
    (hvi : bootBuiltins "isinstance" = some (.builtin "isinstance") := by decide +kernel)
    (hs : starEach [a, .Name nx pn] X.env = (false, eval a X.env) :: starEach [.Name nx pn] X.env := by rfl) (hpl : (backTo pos (starEach [.Name nx pn] X.env)).any (·.1) = false := by rfl)
    (hs2 : starEach [.Name nx pn] X.env = (false, eval (.Name nx pn) X.env) :: starEach [] X.env := by rfl) :
    SE X C (.Call (.Name "isinstance" pf) [a, .Name nx pn] [] pos) (eUn (gIsD tb) fa) :=
  pe_weak (pe_callB call_isV hg hm hvi (pa_cons ha (pa_cons hc pa_nil hs2) hs) (by decide) (by decide) hs hpl) fun σ H Q h => by
    obtain ⟨δ, v8, re, eH, h1⟩ := lift_un h
    refine ⟨δ, v8, re, eH, on_mono h1 fun d x v1 l1 s1 r1 h2 => ?_⟩
    obtain ⟨v2, dx, d2, eH2, sr, e, r2, h2⟩ := h2
    rw [← eH2]
    cases r2 with
    | non =>
      simp only [gIsD, Option.some.injEq] at e
      subst e
      exact .inl ⟨.non, cV, .type "NoneType", cv, false, rfl, hk, .base .non, hE.non, h2 _ v2 .refl sr rfl (.bl _)⟩
    | @ev a0 c ks0 ds0 r3 =>
      simp only [gIsD] at e
      cases q : tb c with
      | none => rw [q] at e; exact nomatch e
      | some b =>
        rw [q] at e
        simp only [Option.map_some, Option.some.injEq] at e
        subst e
        obtain ⟨h3, h4⟩ := hE.ev c b q
        cases r3 with
        | ev0 hG => exact .inr (.inl ⟨a0, C.ct c, cV, cv, b, rfl, hk, sr.sub _ _ hG, h3, h4, h2 _ v2 .refl sr rfl (.bl _)⟩)
        | ev n hG hG2 hl hr => exact .inr (.inr ⟨a0, C.ct c, _, _, cV, cv, b, rfl, hk, sr.sub _ _ hG, sr.sub _ _ hG2, h3, h4, h2 _ v2 .refl sr rfl (.bl _)⟩)
    | _ => simp only [gIsD, reduceCtorEq] at e
end
@[simp] theorem v_isD_non (tb : String → Option Bool) : gIsD tb .non = some (.bl false) := id rfl
@[simp] theorem v_isD_ev (tb : String → Option Bool) (c : String) (ks : List Str) (ds : List D) : gIsD tb (.ev c ks ds) = (tb c).map .bl := id rfl
@[simp] theorem v_eFdE (n : Str) (t : String → Bool) (f : E) (δ : Sl) (s : Sto) : eFdE n t f δ s = (f δ s).bind fun d s1 => R.ofO (gFdE n t d) s1 := id rfl
@[simp] theorem v_sRaiseF (c : String) (ns : List Str) (a : As) (δ : Sl) (s : Sto) : sRaiseF c ns a δ s = sBind (a δ s) δ fun ds s1 => match ds with
  | _ :: ys => if ys.length = ns.length ∧ ns.length ≤ 10 ∧ ns ≠ [] then .exc ⟨c, (ns.zip ys).reverse⟩ δ s1 else .stk
  | [] => .stk := id rfl
end Gs

/-! GSl: [::-1] of a list, a tuple, a text; slices of lists with a step. -/
namespace HT
open PySem PySem.Spec PyProof.Rows L2
section
variable {prog : Program} {w : World} {A : Around} {E : Value → Shared → Prop} {s : Shared}
theorem sliceApplied_rev {sl : Addr} {vs : Value} {n : Nat} {Q : Int × Int × Nat → Shared → Prop} (hs : s.heap.IsSliceOf sl .none .none vs) (ps : IsPart vs (some (-1)))
    (h : Q ((n : Int) - 1, -1, n) s) : wpAny (model prog w) A (Builtin.Slice.sliceApplied (.ref sl) (pure (n : Int))) Q E s := by
  obtain ⟨os, hos, hcs, hds⟩ := id hs
  unfold Builtin.Slice.sliceApplied Builtin.Slice.sliceFields
  refine wpAny_bind (wpAny_bind (wpAny_field hos hds (x := .none) rfl (wpAny_bind (wpAny_field hos hds (x := .none) rfl (wpAny_bind (wpAny_field hos hds (x := vs) rfl (wpAny_pure ?_)))))))
  refine wpAny_bind (slicePart_ ps ?_)
  show wpAny _ _ (if ((-1 : Int) == 0) = true then _ else _) _ _ s
  rw [if_neg (by decide)]
  refine wpAny_bind (slicePart_none (wpAny_bind (slicePart_none (wpAny_bind (wpAny_pure ?_)))))
  have e1 : Builtin.Slice.sliceAdjust none none (-1) (n : Int) = ((n : Int) - 1, -1) := by
    unfold Builtin.Slice.sliceAdjust
    simp
  have e2 : Builtin.Slice.slicePlaces ((n : Int) - 1) (-1) (-1) = n := by
    unfold Builtin.Slice.slicePlaces
    simp only [show ¬ ((-1 : Int) > 0) by decide, if_false, Int.neg_neg, Int.ediv_one]
    split <;> omega
  show wpAny _ _ (match Builtin.Slice.sliceAdjust none none (-1) (n : Int) with | (lo, hi) => pure (lo, (-1 : Int), Builtin.Slice.slicePlaces lo hi (-1))) _ _ s
  rw [e1]
  show wpAny _ _ (pure ((n : Int) - 1, (-1 : Int), Builtin.Slice.slicePlaces ((n : Int) - 1) (-1) (-1))) _ _ s
  rw [e2]
  exact wpAny_pure h
theorem fm_congr {α β : Type} {f g : α → Option β} : ∀ {l : List α}, (∀ x ∈ l, f x = g x) → l.filterMap f = l.filterMap g
  | [], _ => rfl
  | x :: l, h => by
    rw [List.filterMap_cons, List.filterMap_cons, h x (by simp), fm_congr fun y hy => h y (by simp [hy])]
theorem pick_rev (xs : Array Value) : ((List.range xs.size).filterMap fun (m : Nat) => xs[((xs.size : Int) - 1 + (m : Int) * -1).toNat]?).toArray = xs.toList.reverse.toArray := by
  congr 1
  apply List.ext_getElem?
  intro i
  have e : (List.range xs.size).filterMap (fun (m : Nat) => xs[((xs.size : Int) - 1 + (m : Int) * -1).toNat]?) = (List.range xs.size).map (fun m => xs.toList.reverse[m]!) := by
    rw [← List.filterMap_eq_map]
    apply fm_congr
    intro m hm
    have hm := List.mem_range.mp hm
    have e2 : ((xs.size : Int) - 1 + (m : Int) * -1).toNat = xs.size - 1 - m := by omega
    rw [e2]
    have h1 : xs.size - 1 - m < xs.size := by omega
    have h2 : m < xs.toList.reverse.length := by simpa using hm
    simp [h1, List.getElem!_eq_getElem?_getD, List.getElem?_reverse, hm]
  rw [e]
  by_cases h : i < xs.size
  · have h2 : i < xs.toList.reverse.length := by simpa using h
    rw [List.getElem?_map, List.getElem?_range h]
    simp only [Option.map_some]
    rw [List.getElem?_eq_getElem h2, List.getElem!_eq_getElem?_getD, List.getElem?_eq_getElem h2]
    rfl
  · rw [List.getElem?_eq_none (by simpa using h), List.getElem?_eq_none (by simpa using h)]
theorem getItem_tuple_rev {t sl : Addr} {items : Array Value} {vs : Value} {Q : Value → Shared → Prop} (ht : IsTup s.heap t items) (hs : s.heap.IsSliceOf sl .none .none vs) (ps : IsPart vs (some (-1)))
    (h : Q (.ref s.heap.objs.size) { s with heap := s.heap.push { cls := .type "tuple", data := .seq items.toList.reverse.toArray } })
    (hsz : items.size ≤ sizeLine) : wpAny (model prog w) A (getItem (.ref t) (.ref sl)) Q E s := by
  have htake : sizeOk (.seq items.toList.reverse.toArray) := by
    show items.toList.reverse.toArray.size ≤ sizeLine
    simpa using hsz
  obtain ⟨os, hos, hcs, hds⟩ := id hs
  have hTs : s.TypeIs (.ref sl) "slice" := ⟨os, hos, hcs⟩
  unfold getItem
  try with_reducible refine wpAny_holding ?_
  first | refine wpAny_bind (wpAny_pure ?_) | skip
  refine wpAny_bind (wpAny_sequenceKey ht.typeIs (by decide) ?_)
  refine wpAny_bind (wpAny_callSpecial?_slot (name := Str.ofString "__getitem__") ht.typeIs PyProof.Rows.slot_tuple_getitem
    (wpAny_call_entry PyProof.Rows.slot_tuple_getitem ht.typeIs entry_tuple_getitem ?_ (args_tuple_getitem _ _)))
  show wpAny _ _ (Builtin.Tuple.tupleItemsOf (.ref t) >>= _) _ _ s
  refine wpAny_bind (tupleItemsOf_ ht ?_)
  refine wpAny_bind (wpAny_typeOf hTs ?_)
  rw [if_pos (by decide)]
  refine wpAny_bind (sliceApplied_rev (n := items.size) hs ps ?_)
  have hno : ¬ (((items.size : Int) - 1 == 0 && (-1 : Int) == 1 && items.size == items.size) = true) := by
    intro q
    rw [Bool.and_eq_true, Bool.and_eq_true] at q
    exact absurd q.1.2 (by decide)
  show wpAny _ _ (if ((items.size : Int) - 1 == 0 && (-1 : Int) == 1 && items.size == items.size) = true then _ else _) _ _ s
  rw [if_neg hno, pick_rev]
  first
    | exact wpAny_bind (m := Builtin.Tuple.tupleExact _) (wpAny_newObj_type (wpAny_pure ⟨_, rfl, wpAny_pure h⟩) htake)
    | exact wpAny_bind (m := Builtin.Tuple.tupleExact _) (wpAny_newObj_type (wpAny_bind (wpAny_pure (wpAny_pure ⟨_, rfl, wpAny_pure h⟩))) htake)
    | exact wpAny_bind (wpAny_bind (m := Builtin.Tuple.tupleExact _) (wpAny_newObj_type (wpAny_pure (wpAny_pure ⟨_, rfl, wpAny_pure h⟩)) htake))
    | exact wpAny_bind (wpAny_bind (m := Builtin.Tuple.tupleExact _) (wpAny_newObj_type (wpAny_pure ⟨_, rfl, wpAny_pure h⟩) htake))
end
end HT
namespace L2
open PySem PySem.Spec PyProof.Rows
def revS (z : Str) : Str := ⟨z.cps.toList.reverse.toArray⟩
theorem str_pick_rev (x : Str) : (⟨((Builtin.Str.strSliceIndices none none (-1) x.length).filterMap (x.cps[·]?)).toArray⟩ : Str) = revS x := by
  unfold revS
  congr 2
  have e : Builtin.Str.strSliceIndices none none (-1) x.length = (List.range x.cps.size).map fun k => x.cps.size - 1 - k := PySem.W.krv_sliceRange x.cps.size
  rw [e, PySem.W.krv_range, List.filterMap_reverse, PySem.W.krv_all]
def tRevT (K : PySem.W.Frag) (te : TE) : TE := fun σ H Q => te σ H fun x H1 => (∃ a xs, x = .ref a ∧ SqL K H1 a xs ∧ ∀ p, H1 p = none → Q (.ref p) (upd H1 p (.lst xs.reverse))) ∨
  (∃ a xs, x = .ref a ∧ SqT K H1 a xs ∧ ∀ p, H1 p = none → Q (.ref p) (upd H1 p (.tup xs.reverse))) ∨ ∃ z, x = .str z ∧ z.length ≤ sizeLine ∧ Q (.str (revS z)) H1
section
variable {X : Cx}
theorem pe_revA {e : Expr} {te : TE} {k : Nat} {p1 p2 p3 pos : Pos} (he : PE X e te) : PE X (.Subscript e (.Slice none none (some (.UnaryOp .USub (.Constant (.int 1) k p1) p2)) p3) pos) (tRevT X.K te) := by
  refine ⟨fun pins s σ H Q I h => ?_⟩
  refine Subscript_ (thn (he.run pins s σ H _ I h) fun v s1 ⟨x, H1, I1, r1, q1⟩ => ?_)
  have hst : PO X (some (.UnaryOp .USub (.Constant (.int 1) k p1) p2)) (tPart (tUn (rU fun i => .int (-i)) (tC (.int 1)))) := po_some (pe_un un_neg pe_int)
  refine wpAny_Slice (thn (po_none.run pins s1 σ H1 (fun o H2 => o = none ∧ H2 = H1) I1 ⟨rfl, rfl⟩) fun vl s2 ⟨l, H2, I2, pl, el, e2⟩ => ?_)
  subst el e2
  refine thn (po_none.run pins s2 σ H2 (fun o H3 => o = none ∧ H3 = H2) I2 ⟨rfl, rfl⟩) fun vu s3 ⟨u, H3, I3, pu, eu, e3⟩ => ?_
  subst eu e3
  refine thn (hst.run pins s3 σ H3 (fun o H4 => o = some (-1) ∧ H4 = H3) I3 ⟨1, rfl, -1, rfl, rfl, rfl⟩) fun vs s4 ⟨o, H4, I4, ps, eo, e4⟩ => ?_
  subst eo e4
  have I5 : Inv X pins σ H4 { s4 with heap := s4.heap.push { cls := .type "slice", data := .fields #[vl, vu, vs] } } := I4.kept (t' := s4.toks) fun b ob q => Heap.get?_push_of_some _ q
  have el : vl = .none := by cases pl; rfl
  have eu : vu = .none := by cases pu; rfl
  rcases q1 with ⟨a, xs, ex, hx, q⟩ | ⟨a, xs, ex, hx, q⟩ | ⟨z, ex, hz, q⟩
  · subst ex
    cases r1
    obtain ⟨its, r, ht, hz⟩ := I5.list hx
    have hlen := r.length
    refine tail_any (ops := [.ref a, .ref s4.heap.objs.size]) ht.isList.typeIs (PySem.slot_list_getitem.lookup) ?_ (by with_unfolding_all rfl)
    refine wpAny_getItem_list_slice ht.isList (Heap.IsSliceOf.new _ vl vu vs) pl pu ps (by decide) ?_ (by rw [List.size_toArray]; omega)
    rw [PySem.W.krv_pick]
    refine ⟨.ref _, _, I5.laid (t' := s4.toks) (o := .lst xs.reverse) (fun b ob q => Heap.get?_push_of_some _ q) (Nat.le_refl _) ?_, rfl, q _ (I5.hok.fresh (Nat.le_refl _))⟩
    exact ⟨by rw [List.length_reverse]; exact hz, _, 0, r.reverse, Heap.get?_push_size _ rfl⟩
  · subst ex el eu
    cases r1
    obtain ⟨its, r, ht, hz⟩ := I5.tuple hx
    have hlen := r.length
    refine tail_any (ops := [.ref a, .ref s4.heap.objs.size]) ht.typeIs PyProof.Rows.slot_tuple_getitem.lookup ?_ (by with_unfolding_all rfl)
    refine HT.getItem_tuple_rev ht (Heap.IsSliceOf.new _ .none .none vs) ps ?_ (by rw [List.size_toArray]; omega)
    refine ⟨.ref _, _, I5.laid (t' := s4.toks) (o := .tup xs.reverse) (fun b ob q => Heap.get?_push_of_some _ q) (Nat.le_refl _) ?_, rfl, q _ (I5.hok.fresh (Nat.le_refl _))⟩
    exact ⟨by rw [List.length_reverse]; exact hz, _, r.reverse, IsTup.new _ _⟩
  · subst ex
    obtain ⟨t, rfl⟩ := r1
    obtain ⟨l', e1, e2⟩ := IsPart.raw pl
    obtain ⟨u', e3, e4⟩ := IsPart.raw pu
    obtain ⟨s', e5, e6⟩ := IsPart.raw ps
    obtain ⟨os, hos, hcs, hds⟩ := Heap.IsSliceOf.new s4.heap vl vu vs
    subst e1 e3 e5
    refine tail_any (ops := [.str z t, .ref s4.heap.objs.size]) (typeIs_str _ _ _) F.slot_str_getitem.lookup ?_ (by with_unfolding_all rfl)
    have hs1 : (s'.map (·.1)) = some (-1) := e6
    have hl0 : (l'.map (·.1)) = none := e2
    have hu0 : (u'.map (·.1)) = none := e4
    refine wpAny_getItem_str_slice (l := l') (u := u') (st := s') ⟨os, hos, hcs, hds⟩ (by rw [hs1]; rfl) ?_
    have em : sliceMade z t l' u' s' = Made.str (revS z) := by
      unfold sliceMade slicePicked
      rw [hs1, hl0, hu0]
      rw [if_neg (by simp)]
      congr 1
      exact str_pick_rev z
    rw [em]
    refine ⟨?_, .str _, H4, I5.tok _, ⟨_, rfl⟩, q⟩
    show (revS z).cps.size ≤ sizeLine
    simpa [revS, Str.length] using hz
end
end L2
namespace Gs
open PySem L2
def gRevA : B1
  | .lst xs => some (.lst xs.reverse)
  | .tup xs => some (.tup xs.reverse)
  | .str z => if z.length ≤ sizeLine then some (.str (L2.revS z)) else none
  | _ => none
section
variable {X : Cx} {C : Cc} {a : Expr} {fa : E} {pos : Pos}
theorem se_revA {k : Nat} {p1 p3 p4 : Pos} (ha : SE X C a fa) : SE X C (.Subscript a (.Slice none none (some (.UnaryOp .USub (.Constant (.int 1) k p1) p3)) p4) pos) (eUn gRevA fa) :=
  pe_weak (pe_revA ha) fun σ H Q h => by
    obtain ⟨δ, v, re, eH, h1⟩ := lift_un h
    refine ⟨δ, v, re, eH, on_mono h1 fun d x v1 l1 s1 r1 h2 => ?_⟩
    obtain ⟨v2, dx, d2, eH2, sr, e, r2, h2⟩ := h2
    rw [← eH2]
    cases r2 <;> simp only [gRevA, Option.some.injEq, reduceCtorEq] at e
    · rename_i z
      split at e
      · rename_i hz
        cases e
        exact .inr (.inr ⟨z, rfl, hz, h2 _ v2 .refl sr rfl (.str _)⟩)
      · cases e
    · rename_i c vs ds p q
      subst e
      exact .inr (.inl ⟨_, _, rfl, sqt_mono sr.sub p, fun l hl => let ⟨l9, s9⟩ := new_ok (o := .tup _) sr hl; h2 _ _ l9 s9 rfl (.tup (SqT.of upd_same) (l9.repl q.reverse))⟩)
    · rename_i c vs ds p q
      subst e
      exact .inl ⟨_, _, rfl, p, fun l hl => let ⟨l9, s9⟩ := new_ok (o := .lst _) sr hl; h2 _ _ l9 s9 rfl (.lst (SqL.of upd_same) (l9.repl q.reverse))⟩
end
@[simp] theorem v_revA_lst (xs : List D) : gRevA (.lst xs) = some (.lst xs.reverse) := id rfl
@[simp] theorem v_revA_tup (xs : List D) : gRevA (.tup xs) = some (.tup xs.reverse) := id rfl
@[simp] theorem v_revA_str (z : Str) : gRevA (.str z) = if z.length ≤ sizeLine then some (.str (L2.revS z)) else none := id rfl
end Gs

/-! GTe: try .. except C .. else (the caught one without a name). -/
namespace Gs
open PySem L2
def sTryE (t : String → Option Bool) (fb fu fo : S) : S := fun δ s => match fb δ s with
  | .nx δ' s' => fo δ' s'
  | .exc e δ' s' => (match t e.cls with
    | some true => (match fu δ' s' with
      | .exc _ _ _ => .stk
      | r => r)
    | some false => .exc e δ' s'
    | none => .stk)
  | r => r
section
variable {X : Cx} {C : Cc}
theorem ss_try_else {x : Str} {c : Value} {t : String → Option Bool} {body suite orelse : List Stmt} {b₀ : Stmt} {np pos' pos : Pos} {fb fu fo : S} (hs : X.stack = X.env :: X.outer) (hf : X.env.frame = some X.env.locals)
    (hc : Names X x c) (tk : Takes X C.W) (ht : ∀ s b, t s = some b → PySem.W.exmOne X.K (.ref (C.ct s)) c = some b)
    (hb : ∀ (W : WX) (pn : List (Addr × Obj)) (xe : Value → Shared → Prop), Takes (X.tr pn xe) W → PassesOwn (model X.prog X.w) X.A X.env xe → SSs (X.tr pn xe) { C with W := W } body fb)
    (hsu : ∀ (a : Addr) (pn : List (Addr × Obj)), SSs (X.suite a pn) C.nox (b₀ :: suite) fu) (ho : SSs X C orelse fo) :
    SS X C (.Try body [.ExceptHandler (some (.Name x np)) none (b₀ :: suite) pos'] orelse [] pos) (sTryE t fb fu fo) := by
  refine ⟨fun pins s σ H Dn I h => ?_⟩
  refine (ps_try_onlyE (tb := fun W => liftS X.K { C with W := W } fb) (ts := fun a cls d => liftS X.K C.nox fu) (u := liftS X.K C fo) ho hs hf hc tk hb fun a oe cls d pn _ _ => hsu a _).run pins s σ H Dn I ?_
  obtain ⟨δ, v, re, eH, h⟩ := h
  refine ⟨δ, v, re.wish2, eH, ?_⟩
  unfold sTryE at h
  cases e : fb δ v.st with
  | nx δ' s' =>
    rw [e] at h
    intro σ' v' re' l es
    simp only at h
    refine ⟨δ', v', re'.wish2, rfl, ?_⟩
    rw [es]
    cases ef : fo δ' s' with
    | nx δ2 s2 => rw [ef] at h; exact fun σ2 w re2 l4 e4 => h _ w re2.wish2 (l.trans l4) e4
    | bk δ2 s2 => rw [ef] at h; exact fun σ2 w re2 l4 e4 => h _ w re2.wish2 (l.trans l4) e4
    | ct δ2 s2 => rw [ef] at h; exact fun σ2 w re2 l4 e4 => h _ w re2.wish2 (l.trans l4) e4
    | rt d s2 => rw [ef] at h; exact fun x w l4 s4 e4 r4 => h x w l4 s4 e4 r4
    | exc ex δ2 s2 => rw [ef] at h; exact fun cls dd σ2 w re2 l4 e4 rx => h cls dd σ2 w re2.wish2 (l.trans l4) e4 rx
    | stk => rw [ef] at h; exact h.elim
  | bk δ' s' => rw [e] at h; exact fun σ' v' re l es => h σ' v' re.wish2 l es
  | ct δ' s' => rw [e] at h; exact fun σ' v' re l es => h σ' v' re.wish2 l es
  | rt d s' => rw [e] at h; exact h
  | stk => rw [e] at h; exact h.elim
  | exc ex δ' s' =>
    rw [e] at h
    simp only at h
    intro cls dd σ' v' re' l' es rx
    cases q : t ex.cls with
    | none => rw [q] at h; exact h.elim
    | some bb =>
      rw [q] at h
      refine ⟨bb, by rw [rx.1]; exact ht _ _ q, fun hb => ?_, fun hb => ?_⟩
      · subst hb
        intro a ha
        simp only at h
        refine ⟨δ', v', re'.wish2, rfl, ?_⟩
        rw [es]
        cases ef : fu δ' s' with
        | nx δ2 s2 => rw [ef] at h; exact fun σ2 w re2 l4 e4 => h _ w re2.wish2 (l'.trans l4) e4
        | bk δ2 s2 => rw [ef] at h; exact fun σ2 w re2 l4 e4 => h _ w re2.wish2 (l'.trans l4) e4
        | ct δ2 s2 => rw [ef] at h; exact fun σ2 w re2 l4 e4 => h _ w re2.wish2 (l'.trans l4) e4
        | rt d s2 => rw [ef] at h; exact fun x w l4 s4 e4 r4 => h x w l4 s4 e4 r4
        | exc _ _ _ => rw [ef] at h; exact h.elim
        | stk => rw [ef] at h; exact h.elim
      · subst hb
        exact h cls dd σ' v' re'.wish2 l' es rx
end
@[simp] theorem v_sTryE (t : String → Option Bool) (fb fu fo : S) (δ : Sl) (s : Sto) : sTryE t fb fu fo δ s = (match fb δ s with
  | .nx δ' s' => fo δ' s'
  | .exc e δ' s' => (match t e.cls with
    | some true => (match fu δ' s' with
      | .exc _ _ _ => .stk
      | r => r)
    | some false => .exc e δ' s'
    | none => .stk)
  | r => r) := id rfl
end Gs

/-! GDb: dict(xs) of a fixed list of pairs. -/
namespace Gs
open PySem L2
def pairsD : List D → Option (List (Key × D))
  | [] => some []
  | .tup [k, d] :: r => match keyD k, pairsD r with
    | some k, some r => some ((k, d) :: r)
    | _, _ => none
  | _ :: _ => none
def mergeKD (acc kvs : List (Key × D)) : List (Key × D) := kvs.foldl (fun acc kv => putKD acc kv.1 kv.2) acc
def eDictP (a : E) : E := fun δ s => (a δ s).bind fun x s1 => match x with
  | .lst xs => (match pairsD xs with
    | some kvs => .ok (.ob s1.length) (s1 ++ [.dK (mergeKD [] kvs)])
    | none => .stk)
  | _ => .stk
section
variable {K : PySem.W.Frag} {ct : String → Addr} {v : Vw}
theorem pairs_rep : ∀ {ds : List D} {vs : List V} {kvs : List (Key × D)}, RepL K ct v.G v.m ds vs → pairsD ds = some kvs → ∃ (ps : List Addr) (kvv : List (Key × V)), vs = ps.map V.ref ∧ Paired (fun p kv => SqT K v.G p [kV kv.1, kv.2]) ps kvv ∧ RepP K ct v.G v.m kvs kvv
  | [], vs, kvs, r, e => by
    cases r
    simp only [pairsD, Option.some.injEq] at e
    subst e
    exact ⟨[], [], rfl, .nil, .nil⟩
  | d :: ds, vs, kvs, r, e => by
    cases r with
    | cons h t =>
      unfold pairsD at e
      split at e
      · rename_i z; exact nomatch z
      · rename_i k d2 r2 z
        obtain ⟨rfl, rfl⟩ := List.cons.inj z
        split at e
        · rename_i k' r' e1 e2
          simp only [Option.some.injEq] at e
          subst e
          obtain ⟨ps, kvv, rfl, hp, hr⟩ := pairs_rep t e2
          cases h with
          | tup hq rr =>
            rename_i a us
            cases rr with
            | cons rk rr =>
              cases rr with
              | cons rd rr =>
                cases rr
                have := keyD_rep e1 rk
                subst this
                exact ⟨a :: ps, _, rfl, .cons (b := (k', _)) hq hp, .cons rd hr⟩
        · exact nomatch e
      · exact nomatch e
theorem RepP.mergeK {kvs : List (Key × D)} {kvv : List (Key × V)} (r : RepP K ct v.G v.m kvs kvv) : ∀ {acc : List (Key × D)} {acv : List (Key × V)}, RepP K ct v.G v.m acc acv → RepP K ct v.G v.m (mergeKD acc kvs) (L2.mergeK acv kvv) := by
  induction r with
  | nil => exact fun h => h
  | cons h r ih => exact fun ha => ih (ha.putK h _)
end
section
variable {X : Cx} {C : Cc} {a : Expr} {fa : E} {p pos : Pos} {x : Str}
theorem se_dictP (hc : X.calm = true) (hx : x = "dict") (hg : Gl X x) (hm : X.mg x = none) (ha : SE X C a fa) (hv : bootBuiltins x = some (.type "dict")) (hn : x ≠ "__name__" := by decide) (hdb : (x == ("__debug__" : Str)) = false := by decide)
    (he : starEach [a] X.env = (false, eval a X.env) :: starEach [] X.env := by rfl) (hpl : (backTo pos (starEach [] X.env)).any (·.1) = false := by rfl) : SE X C (.Call (.Name x p) [a] [] pos) (eDictP fa) :=
  pe_weak (pe_callTy (call_dictP hc) hg hm hv (pa_cons ha pa_nil he) hn hdb he hpl) fun σ H Q ⟨δ, v, re, eH, h⟩ => ⟨δ, v, re, eH, on_mono (on_bind h) fun d y v1 l1 s1 r1 h1 => by
    cases d with
    | lst xs =>
      simp only at h1
      cases q : pairsD xs with
      | none => rw [q] at h1; exact h1.elim
      | some kvs =>
        rw [q] at h1
        cases r1 with
        | lst hq rr =>
          obtain ⟨ps, kvv, rfl, hp, hr⟩ := pairs_rep rr q
          refine ⟨_, ps, kvv, rfl, s1.sub.seq hq, L2.Paired.mapP hp (fun _ _ z => sqt_mono s1.sub z), fun b hb => ?_⟩
          have rp := hr.mergeK (acc := []) (acv := []) .nil
          obtain ⟨l2, s2⟩ := alloc_ok (p := b) (H' := upd v1.H b (.dK (L2.mergeK [] kvv))) (o := .dK (mergeKD [] kvs)) s1 hb (same_new hb _) (fun C b fs q => by rw [upd_same] at q; cases q) ⟨_, upd_same, rp.mono (fun _ _ z => z) (mset_grow (s1.dom _ (Nat.le_refl _)))⟩
          exact h1 (.ref b) (v1.alloc b (upd v1.H b (.dK (L2.mergeK [] kvv))) (.dK (mergeKD [] kvs))) l2 s2 rfl (.ob mset_same)
    | _ => exact h1.elim⟩
end
@[simp] theorem v_eDictP (a : E) (δ : Sl) (s : Sto) : eDictP a δ s = (a δ s).bind fun x s1 => match x with
  | .lst xs => (match pairsD xs with
    | some kvs => .ok (.ob s1.length) (s1 ++ [.dK (mergeKD [] kvs)])
    | none => .stk)
  | _ => .stk := id rfl
end Gs

/-! GCl: functions made within a def: what they capture; their call. -/
namespace Gs
open PySem PySem.Spec PyProof.Rows L2
mutual
/-- no function made within a def stands in it -/
def noc : D → Bool
  | .non => true
  | .bl _ => true
  | .int _ => true
  | .str _ => true
  | .fn _ => true
  | .ob _ => true
  | .clo _ _ => false
  | .tup xs => nocL xs
  | .lst xs => nocL xs
  | .dct _ ds => nocL ds
  | .ev _ _ ds => nocL ds
def nocL : List D → Bool
  | [] => true
  | d :: ds => noc d && nocL ds
end
def nocO : O → Bool
  | .lst xs => nocL xs
  | .dK kvs => nocL (kvs.map (·.2))
  | .dT kvs => nocL (kvs.map (·.2))
  | .ins _ fs => nocL (fs.map (·.2))
  | .tab _ _ => true
  | .fK kvs => nocL (kvs.map (·.2))
  | .gone => true
def nocS (s : Sto) : Bool := s.all nocO
theorem nocL_all : ∀ xs : List D, nocL xs = xs.all noc
  | [] => rfl
  | x :: xs => by simp only [nocL, List.all_cons, nocL_all xs]
section
variable {K : PySem.W.Frag} {ct : String → Addr} {G : Hp} {m : Nat → Option Addr} {as : List Addr}
theorem minus_of {a : Addr} {o : HO} (h : G a = some o) (n : a ∉ as) : minus G as a = some o := by
  unfold minus
  rw [if_neg n]
  exact h
theorem minus_in {a : Addr} (n : a ∈ as) : minus G as a = none := by
  unfold minus
  rw [if_pos n]
theorem minus_sub {a : Addr} {o : HO} (h : minus G as a = some o) : G a = some o ∧ a ∉ as := by
  unfold minus at h
  split at h
  · exact nomatch h
  · rename_i n
    exact ⟨h, n⟩
/-- cells, and nothing else -/
structure Ce (G : Hp) (as : List Addr) : Prop where
  ce : ∀ a ∈ as, ∃ o v, G a = some (.frz o (CellO a v))
theorem Ce.ne (c : Ce G as) {a : Addr} {o : HO} (h : G a = some o) (n : ∀ x φ, o ≠ .frz x (.ext φ)) : minus G as a = some o := minus_of h fun ha => by
  obtain ⟨x, v, e⟩ := c.ce a ha
  rw [h] at e
  exact n _ _ (Option.some.inj e)
theorem Ce.rd (c : Ce G as) {a : Addr} {o : HO} (h : Rd G a o) (n : ∀ φ, o ≠ .ext φ) (n2 : ∀ x φ, o ≠ .frz x (.ext φ)) : Rd (minus G as) a o := by
  rcases h with h | ⟨x, h⟩
  · exact .inl (c.ne h n2)
  · exact .inr ⟨x, c.ne h fun y φ z => by cases z; exact n _ rfl⟩
mutual
theorem rep_less (c : Ce G as) : ∀ (d : D) (x : V), noc d = true → Rep K ct G m d x → Rep K ct (minus G as) m d x
  | .non, x, n, r => by cases r; exact .non
  | .bl b, x, n, r => by cases r; exact .bl b
  | .int i, x, n, r => by cases r; exact .int i
  | .str y, x, n, r => by cases r; exact .str y
  | .fn a, x, n, r => by cases r; exact .fn a
  | .ob i, x, n, r => by cases r with | ob h => exact .ob h
  | .clo k ds, x, n, r => by simp only [noc, Bool.false_eq_true] at n
  | .tup ds, x, n, r => by
    simp only [noc] at n
    cases r with | tup h r => exact .tup (h.imp (fun h => c.rd h (fun φ z => nomatch z) fun x φ z => nomatch z) id) (repL_less c ds _ n r)
  | .lst ds, x, n, r => by
    simp only [noc] at n
    cases r with | lst h r => exact .lst (h.imp (fun h => c.rd h (fun φ z => nomatch z) fun x φ z => nomatch z) id) (repL_less c ds _ n r)
  | .dct ks ds, x, n, r => by
    simp only [noc] at n
    cases r with | dct h l r => exact .dct (c.ne h fun x φ z => nomatch z) l (repL_less c ds _ n r)
  | .ev cc ks ds, x, n, r => by
    simp only [noc] at n
    cases r with
    | ev0 h => exact .ev0 (c.ne h fun x φ z => nomatch z)
    | ev k h h2 l r => exact .ev k (c.ne h fun x φ z => nomatch z) (c.ne h2 fun x φ z => nomatch z) l (repL_less c ds _ n r)
theorem repL_less (c : Ce G as) : ∀ (ds : List D) (xs : List V), nocL ds = true → RepL K ct G m ds xs → RepL K ct (minus G as) m ds xs
  | [], xs, n, r => by cases r; exact .nil
  | d :: ds, xs, n, r => by
    simp only [nocL, Bool.and_eq_true] at n
    cases r with | cons h r => exact .cons (rep_less c d _ n.1 h) (repL_less c ds _ n.2 r)
end
theorem Rep.less (c : Ce G as) {d : D} {x : V} (n : noc d = true) (r : Rep K ct G m d x) : Rep K ct (minus G as) m d x := rep_less c d x n r
theorem RepL.less (c : Ce G as) {ds : List D} {xs : List V} (n : nocL ds = true) (r : RepL K ct G m ds xs) : RepL K ct (minus G as) m ds xs := repL_less c ds xs n r
theorem RepP.less {κ : Type} (c : Ce G as) {ds : List (κ × D)} {xs : List (κ × V)} (r : RepP K ct G m ds xs) : nocL (ds.map (·.2)) = true → RepP K ct (minus G as) m ds xs := by
  induction r with
  | nil => exact fun _ => .nil
  | cons h _ ih =>
    intro n
    simp only [List.map_cons, nocL, Bool.and_eq_true] at n
    exact .cons (Rep.less c n.1 h) (ih n.2)
/-- the view without some cells -/
def Vw.less (v : Vw) (as : List Addr) : Vw := ⟨minus v.G as, minus v.H as, v.m, v.st⟩
theorem owns_less {v : Vw} (sr : SR K ct v) (c : ∀ a ∈ as, ∃ o x, v.G a = some (.frz o (CellO a x))) (b : Addr) : (v.less as).owns b ↔ v.owns b := by
  have key : ∀ (a C : Addr) (fs : List (Str × V)), minus v.H as a = some (.ins C b fs) ↔ v.H a = some (.ins C b fs) := fun a C fs => ⟨fun h => (minus_sub h).1, fun h => minus_of h fun ha => by
    obtain ⟨o, x, e⟩ := c a ha
    rw [sr.sub _ _ e] at h
    exact nomatch h⟩
  constructor
  · rintro ⟨i, o, a, e, l, em, h⟩
    exact ⟨i, o, a, e, l, em, h.imp id fun ⟨C, fs, h⟩ => ⟨C, fs, (key a C fs).mp h⟩⟩
  · rintro ⟨i, o, a, e, l, em, h⟩
    exact ⟨i, o, a, e, l, em, h.imp id fun ⟨C, fs, h⟩ => ⟨C, fs, (key a C fs).mpr h⟩⟩
theorem less_ok {v : Vw} (sr : SR K ct v) (c : Ce v.G as) (n : nocS v.st = true) : SR K ct (v.less as) := by
  refine ⟨fun b o h => ?_, sr.dom, fun i o e l => ?_, sr.inj, fun i kvs e => ?_⟩
  rotate_left 2
  · obtain ⟨a, ob, vs, h1, h2, h3⟩ := sr.fk i kvs e
    have no : nocO (.fK kvs) = true := List.all_eq_true.mp n _ (List.mem_of_getElem? e)
    exact ⟨a, ob, vs, h1, c.ne h2 fun x φ z => (by cases z), RepP.less c h3 (by simpa only [nocO] using no)⟩
  · obtain ⟨h1, h2⟩ := minus_sub h
    exact minus_of (sr.sub _ _ h1) h2
  · obtain ⟨a, em, ga, r⟩ := sr.obj i o e l
    have no : nocO o = true := List.all_eq_true.mp n o (List.mem_of_getElem? e)
    have na : a ∉ as := fun ha => by
      obtain ⟨y, x, e⟩ := c.ce a ha
      rw [ga] at e
      exact nomatch e
    refine ⟨a, em, ?_, ?_⟩
    · show minus v.G as a = none
      unfold minus
      rw [if_neg na]
      exact ga
    · cases o with
      | gone => trivial
      | lst xs => obtain ⟨vs, h, r⟩ := r; exact ⟨vs, minus_of h na, RepL.less c (by simpa only [nocO] using no) r⟩
      | dK xs => obtain ⟨vs, h, r⟩ := r; exact ⟨vs, minus_of h na, RepP.less c r (by simpa only [nocO] using no)⟩
      | dT xs => obtain ⟨vs, h, r⟩ := r; exact ⟨vs, minus_of h na, RepP.less c r (by simpa only [nocO] using no)⟩
      | ins cc fs =>
        obtain ⟨dx, vs, h, h2, h3, r⟩ := r
        have nd : dx ∉ as := fun ha => by
          obtain ⟨y, x, e⟩ := c.ce dx ha
          rw [h3] at e
          exact nomatch e
        refine ⟨dx, vs, minus_of h na, minus_of h2 nd, ?_, RepP.less c r (by simpa only [nocO] using no)⟩
        show minus v.G as dx = none
        unfold minus
        rw [if_neg nd]
        exact h3
      | tab x nm =>
        obtain ⟨e1, ps, h, t, r⟩ := r
        exact ⟨e1, ps, minus_of h na, t, fun pos cv q => by
          obtain ⟨c0, q1, q2⟩ := r pos cv q
          exact ⟨c0, q1, c.ne q2 fun x φ z => nomatch z⟩⟩
      | fK xs => exact r
/-- the cells put back -/
def back (G G2 : Hp) (as : List Addr) : Hp := fun b => if b ∈ as then G b else G2 b
theorem back_in {G2 : Hp} {a : Addr} (h : a ∈ as) : back G G2 as a = G a := if_pos h
theorem back_ne {G2 : Hp} {a : Addr} (h : a ∉ as) : back G G2 as a = G2 a := if_neg h
/-- the view with the cells again -/
def Vw.back (v v2 : Vw) (as : List Addr) : Vw := ⟨Gs.back v.G v2.G as, Gs.back v.H v2.H as, v2.m, v2.st⟩
theorem back_ok {v v2 : Vw} (sr : SR K ct v) (c : Ce v.G as) (l : Le (v.less as) v2) (s2 : SR K ct v2) (hn : ∀ a ∈ as, v2.H a = none) : Le v (v.back v2 as) ∧ SR K ct (v.back v2 as) ∧ Same v2.G (v.back v2 as).G := by
  have cG : ∀ a ∈ as, ∃ o, v.G a = some o ∧ v.H a = some o := fun a ha => by
    obtain ⟨o, x, e⟩ := c.ce a ha
    exact ⟨_, e, sr.sub _ _ e⟩
  have sG : Same v2.G (back v.G v2.G as) := fun b o h => by
    by_cases hb : b ∈ as
    · rw [s2.free (hn b hb)] at h; exact nomatch h
    · rw [back_ne hb]; exact h
  have sH : Same v2.H (back v.H v2.H as) := fun b o h => by
    by_cases hb : b ∈ as
    · rw [hn b hb] at h; exact nomatch h
    · rw [back_ne hb]; exact h
  have sub : Same (back v.G v2.G as) (back v.H v2.H as) := fun b o h => by
    by_cases hb : b ∈ as
    · rw [back_in hb] at h ⊢; exact sr.sub _ _ h
    · rw [back_ne hb] at h ⊢; exact s2.sub _ _ h
  obtain ⟨l3, s3⟩ := grow_ok s2 sG sH sub fun b q => by
    by_cases hb : b ∈ as
    · exact .inr (hn b hb)
    · rw [back_ne hb] at q; exact .inl q
  have ow := owns_less sr c.ce
  refine ⟨⟨fun b o h => ?_, l.m, fun b o h n => ?_, fun b q => ?_, fun b q => ?_, fun b q => ?_⟩, s3, sG⟩
  · show back v.G v2.G as b = some o
    by_cases hb : b ∈ as
    · rw [back_in hb]; exact h
    · rw [back_ne hb]; exact l.g _ _ (minus_of h hb)
  · show back v.H v2.H as b = some o
    by_cases hb : b ∈ as
    · rw [back_in hb]; exact h
    · rw [back_ne hb]; exact l.h _ _ (minus_of h hb) fun z => n ((ow b).mp z)
  · by_cases hb : b ∈ as
    · obtain ⟨o, e, _⟩ := cG b hb
      exact .inl (by rw [e]; exact fun z => nomatch z)
    · have q' : back v.G v2.G as b ≠ none := q
      rw [back_ne hb] at q'
      rcases l.nw b q' with z | z | z
      · refine .inl fun y => z ?_
        show minus v.G as b = none
        unfold minus
        rw [if_neg hb]
        exact y
      · have z' : minus v.H as b = none := z
        unfold minus at z'
        rw [if_neg hb] at z'
        exact .inr (.inl z')
      · exact .inr (.inr ((ow b).mp z))
  · rcases l3.ow b q with z | z
    · rcases l.ow b z with z | z
      · exact .inl ((ow b).mp z)
      · by_cases hb : b ∈ as
        · obtain ⟨_, u, hu⟩ := s2.owns_tracked (by assumption)
          rw [hn b hb] at hu
          exact nomatch hu
        · have z' : minus v.H as b = none := z
          unfold minus at z'
          rw [if_neg hb] at z'
          exact .inr z'
    · by_cases hb : b ∈ as
      · obtain ⟨_, u, hu⟩ := s3.owns_tracked q
        have hu' : back v.H v2.H as b = some u := hu
        rw [back_in hb] at hu'
        obtain ⟨g1, _⟩ := s3.owns_tracked q
        have g1' : back v.G v2.G as b = none := g1
        rw [back_in hb] at g1'
        obtain ⟨o, e, _⟩ := cG b hb
        rw [g1'] at e
        exact nomatch e
      · have z2 := l.al b z
        have z' : minus v.H as b = none := z2
        unfold minus at z'
        rw [if_neg hb] at z'
        exact .inr z'
  · have q' : back v.H v2.H as b = none := q
    by_cases hb : b ∈ as
    · rw [back_in hb] at q'; exact q'
    · rw [back_ne hb] at q'
      have z' : minus v.H as b = none := l.al b q'
      unfold minus at z'
      rw [if_neg hb] at z'
      exact z'
end
end Gs

/-! GCm: cells that are lent to a call; a def that tells functions made in it; the call of such a function. -/
namespace Gs
open PySem PySem.Spec PyProof.Rows L2 NdefX LamX
/-- cells: the object that stands there, what it holds -/
abbrev Lt := Addr → Option (Obj × V)
def lend (H : Hp) (cs : Lt) : Hp := fun b => match cs b with
  | some (o, v) => some (.frz o (CellO b v))
  | none => H b
def unl (H : Hp) (cs : Lt) : Hp := fun b => match cs b with
  | some _ => none
  | none => H b
theorem lend_none {H : Hp} {cs : Lt} {b : Addr} (h : cs b = none) : lend H cs b = H b := by unfold lend; rw [h]
theorem lend_some {H : Hp} {cs : Lt} {b : Addr} {o : Obj} {v : V} (h : cs b = some (o, v)) : lend H cs b = some (.frz o (CellO b v)) := by unfold lend; rw [h]
theorem unl_none {H : Hp} {cs : Lt} {b : Addr} (h : cs b = none) : unl H cs b = H b := by unfold unl; rw [h]
theorem unl_some {H : Hp} {cs : Lt} {b : Addr} {p : Obj × V} (h : cs b = some p) : unl H cs b = none := by unfold unl; rw [h]
structure Lend (H : Hp) (h : Heap) (cs : Lt) : Prop where
  free : ∀ b p, cs b = some p → H b = none
  obj : ∀ b o v, cs b = some (o, v) → h.get? b = some o ∧ ∃ u, L2.RelV v u ∧ o.data = .cell (some u)
section
variable {P : Program} {w : World} {H H' : Hp} {h h' : Heap} {cs : Lt}
theorem Lend.nn (L : Lend H h cs) {b : Addr} {o : HO} (e : H b = some o) : cs b = none := by
  cases q : cs b with
  | none => rfl
  | some p => rw [L.free b p q] at e; exact nomatch e
theorem Lend.same (L : Lend H h cs) : Same H (lend H cs) := fun b o e => by rw [lend_none (L.nn e)]; exact e
theorem frz_cell {ob : Obj} {b : Addr} {v : V} (e : h.get? b = some ob) (c : ∃ u, L2.RelV v u ∧ ob.data = .cell (some u)) : ObjOk P w H h b (.frz ob (CellO b v)) := by
  obtain ⟨u, r, d⟩ := c
  exact ⟨e, ⟨u, r, ob, e, d⟩, ⟨ob, e⟩, fun h1 h2 ⟨u', r', o', e1, e2⟩ k => ⟨u', r', o', k _ e1, e2⟩⟩
theorem lend_hok (ok : HOk P w H h) (L : Lend H h cs) : HOk P w (lend H cs) h := fun b o e => by
  cases q : cs b with
  | none =>
    rw [lend_none q] at e
    exact (ok b o e).stay (fun c u _ z => z) (fun c z => L.same _ _ z) fun c xs z => L.same _ _ z
  | some p =>
    obtain ⟨ob, v⟩ := p
    rw [lend_some q] at e
    cases e
    obtain ⟨e1, e2⟩ := L.obj b ob v q
    exact frz_cell e1 e2
/-- what is lent is there still -/
theorem lent_at (ok : HOk P w H' h') (fz : ∀ b o u, lend H cs b = some (.frz o u) → H' b = some (.frz o u)) {b : Addr} {o : Obj} {v : V} (q : cs b = some (o, v)) : H' b = some (.frz o (CellO b v)) ∧ h'.get? b = some o := by
  have z := fz b o _ (lend_some q)
  exact ⟨z, (ok b _ z).1⟩
theorem unl_hok (ok : HOk P w H' h') (fz : ∀ b o u, lend H cs b = some (.frz o u) → H' b = some (.frz o u)) : HOk P w (unl H' cs) h' := fun b o e => by
  cases q : cs b with
  | some p => rw [unl_some q] at e; exact nomatch e
  | none =>
    rw [unl_none q] at e
    have key : ∀ c u, H' c = some u → (∀ x y, u ≠ .frz x y) → unl H' cs c = some u := fun c u z n => by
      cases r : cs c with
      | none => rw [unl_none r]; exact z
      | some p =>
        obtain ⟨ob, v⟩ := p
        rw [(lent_at ok fz r).1] at z
        exact (n _ _ (Option.some.inj z).symm).elim
    exact (ok b o e).stay (fun c u _ z => z) (fun c z => key c _ z fun _ _ y => nomatch y) fun c xs z => key c _ z fun _ _ y => nomatch y
theorem un_back {fs : List Addr} (L : Lend H h cs) (ok : HOk P w H' h') (u : Un fs [] (lend H cs) H' h h') : Un fs [] H (unl H' cs) h h' where
  keep := fun b o e n hb hx => by
    cases q : cs b with
    | none => exact u.keep b o e ((lend_none q).trans n) hb hx
    | some p =>
      obtain ⟨ob, v⟩ := p
      rw [(L.obj b ob v q).1] at e
      cases e
      exact (lent_at ok u.frzs q).2
  slot := fun b o e n hb hx => by
    cases q : cs b with
    | none => exact u.slot b o e ((lend_none q).trans n) hb hx
    | some p =>
      obtain ⟨ob, v⟩ := p
      rw [(L.obj b ob v q).1] at e
      cases e
      exact ⟨o.slots, (lent_at ok u.frzs q).2⟩
  free := fun b o e n hx => by
    cases q : cs b with
    | none => rw [unl_none q]; exact u.free b o e ((lend_none q).trans n) hx
    | some p => exact unl_some q
  there := u.there
  tups := fun b xs e => by rw [unl_none (L.nn e)]; exact u.tups b xs ((lend_none (L.nn e)).trans e)
  frzs := fun b o x e => by rw [unl_none (L.nn e)]; exact u.frzs b o x ((lend_none (L.nn e)).trans e)
  tbls := fun b ps e => by rw [unl_none (L.nn e)]; exact u.tbls b ps ((lend_none (L.nn e)).trans e)
theorem ub_back {fs : List Addr} {B : Heap} (L : Lend H h cs) (ok : HOk P w H' B) (u : UB fs (lend H cs) H' h B h') : UB fs H (unl H' cs) h B h' where
  keep := fun b o e n hb => by
    cases q : cs b with
    | none => exact u.keep b o e ((lend_none q).trans n) hb
    | some p =>
      obtain ⟨ob, v⟩ := p
      rw [(L.obj b ob v q).1] at e
      cases e
      exact (lent_at ok u.frzs q).2
  slot := u.slot
  free := fun b o e n => by
    cases q : cs b with
    | none => rw [unl_none q]; exact u.free b o e ((lend_none q).trans n)
    | some p => exact unl_some q
  there := u.there
  tups := fun b xs e => by rw [unl_none (L.nn e)]; exact u.tups b xs ((lend_none (L.nn e)).trans e)
  frzs := fun b o x e => by rw [unl_none (L.nn e)]; exact u.frzs b o x ((lend_none (L.nn e)).trans e)
  tbls := fun b ps e => by rw [unl_none (L.nn e)]; exact u.tbls b ps ((lend_none (L.nn e)).trans e)
theorem cr_back {outer : List Env} {s s' : Shared} {Q Q' : VK} {E E' : XK} {r : Result} (L : Lend H s.heap cs) (hQ : ∀ v H1, Q' v H1 → Q v (unl H1 cs)) (hE : ∀ c d H1, E' c d H1 → E c d (unl H1 cs)) (h : CR (L2.CX P w) outer P w (lend H cs) s Q' E' r s') : CR (L2.CX P w) outer P w H s Q E r s' := by
  cases r with
  | error e =>
    obtain ⟨a, B, H1, cls, d, e1, e2, ok, ub, na, os, ag, e3⟩ := h
    refine ⟨a, B, unl H1 cs, cls, d, e1, e2, unl_hok ok ub.frzs, ub_back L ok ub, ?_, os, ag, hE _ _ _ e3⟩
    cases q : cs a with
    | none => rw [unl_none q]; exact na
    | some p => exact unl_some q
  | ok fl =>
    cases fl with
    | ret u =>
      obtain ⟨v, H1, os, ag, un, ok, rv, q⟩ := h
      exact ⟨v, unl H1 cs, os, ag, un_back L ok un, unl_hok ok un.frzs, rv, hQ _ _ q⟩
    | next => exact h.elim
    | brk => exact h.elim
    | cont => exact h.elim
end

/-! ### the running frame's cells -/
/-- what the cells of these names (with their slots) hold -/
def lentOf (X : Cx) (σ : L2.St) (h : Heap) (ys : List (Str × Nat)) : Lt := fun b => match ys.find? (fun p => decide (X.env.cells.lookup p.1 = some b)) with
  | some p => (match h.get? b, slotAt σ p.2 with
    | some o, some v => some (o, v)
    | _, _ => none)
  | none => none
/-- the names are cells of this frame -/
structure Own (X : Cx) (ys : List (Str × Nat)) : Prop where
  at_ : ∀ p ∈ ys, X.N[p.2]? = some p.1 ∧ X.env.scope.names.lookup p.1 = some .cell ∧ X.fn p.1 = true
  nd : X.N.Nodup
section
variable {X : Cx} {pins : List (Addr × Obj)} {σ : L2.St} {H : Hp} {s : Shared} {ys : List (Str × Nat)}
theorem nodup_idx {N : List Str} (nd : N.Nodup) {i j : Nat} {y : Str} (h1 : N[i]? = some y) (h2 : N[j]? = some y) : i = j := by
  have hi := (List.getElem?_eq_some_iff.mp h1).1
  have hj := (List.getElem?_eq_some_iff.mp h2).1
  exact (List.getElem_inj (h₀ := hi) (h₁ := hj) nd).mp (by rw [(List.getElem?_eq_some_iff.mp h1).2, (List.getElem?_eq_some_iff.mp h2).2])
theorem lent_of {b : Addr} {o : Obj} {v : V} (e : lentOf X σ s.heap ys b = some (o, v)) : ∃ p ∈ ys, X.env.cells.lookup p.1 = some b ∧ s.heap.get? b = some o ∧ σ[p.2]? = some (some v) := by
  unfold lentOf at e
  split at e
  · rename_i p hp
    have h1 := List.mem_of_find?_eq_some hp
    have h2 := List.find?_some hp
    split at e
    · rename_i o' v' q1 q2
      simp only [Option.some.injEq, Prod.mk.injEq] at e
      obtain ⟨rfl, rfl⟩ := e
      exact ⟨p, h1, of_decide_eq_true h2, q1, slotAt_some q2⟩
    · exact nomatch e
  · exact nomatch e
/-- a name's cell holds what its slot holds -/
theorem cell_at (I : Inv X pins σ H s) {j : Nat} {y : Str} {v : V} (hN : X.N[j]? = some y) (hk : X.env.scope.names.lookup y = some .cell) (hs : σ[j]? = some (some v)) : ∃ c o u, X.env.cells.lookup y = some c ∧ s.heap.get? c = some o ∧ L2.RelV v u ∧ o.data = .cell (some u) := by
  obtain ⟨m, hn, hl⟩ := I.loc
  obtain ⟨u, r, l⟩ := hl j y v hN hs (.inr (.inl hk))
  rcases l with ⟨z, _⟩ | ⟨_, c, hc, o, ho, hd⟩
  · have z' : X.env.scope.names.lookup y = some .local := z
    rw [hk] at z'
    cases z'
  · exact ⟨c, o, u, hc, ho, r, hd⟩
theorem lent_get (I : Inv X pins σ H s) (W : Own X ys) {p : Str × Nat} {v : V} (hp : p ∈ ys) (hs : σ[p.2]? = some (some v)) : ∃ c o, X.env.cells.lookup p.1 = some c ∧ lentOf X σ s.heap ys c = some (o, v) := by
  obtain ⟨h1, h2, h3⟩ := W.at_ p hp
  obtain ⟨c, o, u, hc, ho, r, hd⟩ := cell_at I h1 h2 hs
  refine ⟨c, o, hc, ?_⟩
  unfold lentOf
  cases q : ys.find? (fun p => decide (X.env.cells.lookup p.1 = some c)) with
  | none => exact absurd (decide_eq_true hc) (List.find?_eq_none.mp q p hp)
  | some p' =>
    have m1 := List.mem_of_find?_eq_some q
    have m2 : X.env.cells.lookup p'.1 = some c := of_decide_eq_true (List.find?_some (p := fun p : Str × Nat => decide (X.env.cells.lookup p.1 = some c)) q)
    have e1 : p'.1 = p.1 := I.ok.inj _ _ c m2 hc
    have e2 : p'.2 = p.2 := nodup_idx W.nd (W.at_ p' m1).1 (by rw [e1]; exact h1)
    simp only [ho, e2, slotAt_of hs]
theorem lent_lend (I : Inv X pins σ H s) (W : Own X ys) : Lend H s.heap (lentOf X σ s.heap ys) := by
  refine ⟨fun b p e => ?_, fun b o v e => ?_⟩
  · obtain ⟨o, v⟩ := p
    obtain ⟨p, h1, h2, _⟩ := lent_of e
    exact I.freeC _ _ h2
  · obtain ⟨p, h1, h2, h3, h4⟩ := lent_of e
    obtain ⟨n1, n2, n3⟩ := W.at_ p h1
    obtain ⟨c, o', u, hc, ho, r, hd⟩ := cell_at I n1 n2 h4
    rw [h2] at hc
    cases hc
    rw [h3] at ho
    cases ho
    exact ⟨h3, u, r, hd⟩
theorem lent_new (I : Inv X pins σ H s) (W : Own X ys) {b : Addr} {p : Obj × V} (e : lentOf X σ s.heap ys b = some p) : X.s_0.heap.objs.size ≤ b ∧ b ≠ X.env.locals := by
  obtain ⟨o, v⟩ := p
  obtain ⟨p, h1, h2, h3, h4⟩ := lent_of e
  exact ⟨I.ok.cab _ _ (W.at_ p h1).2.2 h2, I.cne _ _ h2⟩
theorem lent_env0 (I : Inv X pins σ H s) (W : Own X ys) : Env0 X.prog X.w X.K X.mg X.base X.A X.stack s (lend H (lentOf X σ s.heap ys)) := by
  have e := I.env0
  refine ⟨e.frames, e.mod, fun b o q => ?_, e.bsz, e.funs, fun b hb => ?_, lend_hok e.hok (lent_lend I W), e.bare⟩
  · obtain ⟨q1, q2⟩ := e.bs b o q
    refine ⟨q1, ?_⟩
    cases z : lentOf X σ s.heap ys b with
    | none => rw [lend_none z]; exact q2
    | some p =>
      have n := (lent_new I W z).1
      have m := Nat.lt_of_lt_of_le (Heap.lt_size q) I.ok.bsz
      exact absurd m (Nat.not_lt.mpr n)
  · cases z : lentOf X σ s.heap ys b with
    | none => rw [lend_none z]; exact e.frf b hb
    | some p =>
      obtain ⟨n, ne⟩ := lent_new I W z
      rcases List.mem_cons.mp (I.stkSub b hb) with y | y
      · exact absurd y ne
      · obtain ⟨_, o, ho, _⟩ := I.ok.funs.mem y
        exact absurd (Heap.lt_size ho) (Nat.not_lt.mpr n)
/-- a def is run with the frame's cells lent -/
theorem run_fnL {k : Nat} {f : Addr} {fd : FuncData} {ps : List Str} {sp : Sp} {E : L2.St → XK} {Q : VK} {us : List Value} {vs : List V} (F : FnOk X.prog X.w X.K X.mg X.base (L2.CX X.prog X.w) k f fd ps sp) (hr : Room k X.A) (hb : Binds X.K fd ps []) (hx : PassesAt (L2.CX X.prog X.w) X σ (E σ))
    (I : Inv X pins σ H s) (W : Own X ys) (r : Vals vs us) (h : sp vs (lend H (lentOf X σ s.heap ys)) (fun v H1 => Q v (unl H1 (lentOf X σ s.heap ys))) (fun c d H1 => E σ c d (unl H1 (lentOf X σ s.heap ys)))) :
    wpAny (model X.prog X.w) X.A (call (.ref f) us) (EP X pins σ Q) X.xe s := by
  have hl : us.length = ps.length := by rw [← r.length]; exact F.len _ _ _ _ h
  have b := hb s us I.kIn (by rw [List.append_nil]; exact hl)
  rw [List.append_nil] at b
  refine wpAny_call (codeAny_mono (F.run X.A X.stack s _ ⟨us, []⟩ us vs _ _ hr (lent_env0 I W) b r h) fun r s' hq => ?_)
  have hq := cr_back (Q := Q) (E := E σ) (lent_lend I W) (fun _ _ z => z) (fun _ _ _ z => z) hq
  cases r with
  | error e => exact hx pins H s e s' I hq
  | ok fl =>
    cases fl with
    | ret u => exact I.after hq
    | next => exact False.elim hq
    | brk => exact False.elim hq
    | cont => exact False.elim hq
end

/-! ### a body that ends with a return, with the slots as they are there -/
structure PSR (X : Cx) (st : List Stmt) (t : (V → L2.St → Hp → Prop) → L2.St → Hp → Prop) : Prop where
  run : ∀ (pins : List (Addr × Obj)) (s : Shared) (σ : L2.St) (H : Hp) (R : V → L2.St → Hp → Prop), Inv X pins σ H s → t R σ H →
    wpAny (model X.prog X.w) X.A (execs st X.env) (fun fl s' => ∃ u v σ' H', fl = .ret u ∧ Inv X pins σ' H' s' ∧ L2.RelV v u ∧ R v σ' H') X.xe s
section
variable {X : Cx} {st : Stmt} {rest : List Stmt} {pos : Pos}
theorem psr_ret {e : Expr} {te : TE} (he : PE X e te) : PSR X [.Return (some e) pos] fun R σ H => te σ H fun v H1 => R v σ H1 := by
  refine ⟨fun pins s σ H R I h => ?_⟩
  refine wpAny_execs_cons (wpAny_Return_some (thn (he.run pins s σ H _ I h) fun v s1 ⟨x, H1, I1, r1, q1⟩ => ?_))
  exact ⟨v, x, σ, H1, rfl, I1, r1, q1⟩
theorem psr_cons {t : TS} {u : (V → L2.St → Hp → Prop) → L2.St → Hp → Prop} (h1 : PS X st t) (h2 : PSR X rest u) : PSR X (st :: rest) fun R σ H => t { nx := fun σ' H' => u R σ' H', rt := fun _ _ => False } σ H := by
  refine ⟨fun pins s σ H R I h => ?_⟩
  refine wpAny_execs_cons (thn (h1.run pins s σ H _ I h) fun f s1 q => ?_)
  cases f with
  | next =>
    obtain ⟨σ', H', I', q⟩ := q
    exact h2.run pins s1 σ' H' R I' q
  | ret v => obtain ⟨_, _, _, _, _, z⟩ := q; exact z.elim
  | brk => obtain ⟨_, _, _, z⟩ := q; exact z.elim
  | cont => obtain ⟨_, _, _, z⟩ := q; exact z.elim
end
/-- a def whose body ends with a return -/
theorem fn_ofC {CX : CXT} {P : Program} {w : World} {K : PySem.W.Frag} {mg : Str → Option Value} {base : Heap} {k : Nat} {f : Addr} {name qual : Str} {params : Arguments} {body : List Stmt} {scope : Scope} {dV kV doc pm cdv ct oc : Value} {an od : Option Addr}
    {osl : Array (Option Value)} {N ps : List Str} {sp : Sp} (lk : K.lookup f = some ⟨oc, od, .func (PySem.W.fnOf name qual params body scope dV kV doc pm an cdv ct), osl⟩) (hcd : PySem.W.codeIn K cdv qual = true) (S : FnScope N ps scope)
    (len : ∀ vs H Q E, sp vs H Q E → vs.length = ps.length)
    (hbody : ∀ (A : Around) (outer : List Env) (s : Shared) (H : Hp) (vs : List V) (Q : VK) (E : XK), Room k (A.deeper (envOfC qual scope s.heap.objs.size f cdv)) → sp vs H Q E →
      ∃ t, PSR (cxOf CX P w K mg base N qual scope f cdv A outer s H E) body t ∧ t (fun v σ' H' => ∀ s', Inv (cxOf CX P w K mg base N qual scope f cdv A outer s H E) [] σ' H' s' → ∃ H'', HOk P w H'' s'.heap ∧ Un (frs outer) [] H H'' s.heap s'.heap ∧ Q v H'') (L2.start N vs) H) :
    FnOk P w K mg base CX (k + 1) f (PySem.W.fnOf name qual params body scope dV kV doc pm an cdv ct) ps sp := by
  refine ⟨len, fun A outer s H args us vs Q E hr e0 hb r hsp => ?_⟩
  have hl := len _ _ _ _ hsp
  have KX : K.In s.heap := e0.mod.kin.keeps fun b o e => (e0.bs b o e).1
  have lim : s.heap.NoLimit := e0.mod.nolimit.keeps fun b o e => (e0.bs b o e).1
  have hkind : ∀ y ∈ ps.zip us, scope.names.lookup y.1 = some .local ∨ (scope.names.lookup y.1 = some .cell ∧ ((cellsFrom (s.heap.objs.size + 1) scope.names []).lookup y.1).isSome = true) := fun ⟨n, v⟩ hy => by
    rcases S.par n (List.of_mem_zip hy).1 with q | q
    · exact .inl q
    · exact .inr ⟨q, PySem.W.cellsFrom_some _ _ _ (.inl q)⟩
  refine codeAny_call_function hr.depth (KX _ _ lk) rfl S.co S.gen rfl (PySem.W.codeRec_of KX hcd) (hb _ _ _ _ ?_)
  refine wpAny_newFunctionEnv_cells S.kind hkind fun env he s1 x => ?_
  subst he
  refine ⟨lim.keeps x.toInCall.keep, codeAny_func ?_⟩
  obtain ⟨t, ht, hq⟩ := hbody A outer s H vs Q E (hr.deeper _) hsp
  have I : Inv (cxOf CX P w K mg base N qual scope f cdv A outer s H E) [] (L2.start N vs) H s1 := inv_start S hr.hd e0 hl r x
  refine wpAny_mono (ht.run [] s1 (L2.start N vs) H _ I hq) (fun fl s' hs => ?_) fun e s' hs => hs
  obtain ⟨u, v, σ', H', rfl, J, rv, q⟩ := hs
  obtain ⟨H'', ok, un, q⟩ := q s' J
  exact ⟨v, H'', J.os, J.bare, un, ok, rv, q⟩
section
variable {X : Cx} {pins : List (Addr × Obj)} {σ : L2.St} {H : Hp} {s : Shared} {ys : List (Str × Nat)}
/-- when the frame is gone its cells are known things -/
theorem lent_end (I : Inv X pins σ H s) (W : Own X ys) (hex : X.ex = []) : HOk X.prog X.w (lend H (lentOf X σ s.heap ys)) s.heap ∧ Un X.fs [] X.H_0 (lend H (lentOf X σ s.heap ys)) X.s_0.heap s.heap := by
  have L := lent_lend I W
  have u := I.base
  rw [hex] at u
  refine ⟨lend_hok I.hok L, u.keep, u.slot, fun b o e n hx => ?_, u.there, fun b xs e => L.same _ _ (u.tups b xs e), fun b o x e => L.same _ _ (u.frzs b o x e), fun b ps e => ?_⟩
  · cases z : lentOf X σ s.heap ys b with
    | none => rw [lend_none z]; exact u.free b o e n hx
    | some p => exact absurd (Heap.lt_size e) (Nat.not_lt.mpr (lent_new I W z).1)
  · obtain ⟨more, z⟩ := u.tbls b ps e
    exact ⟨more, L.same _ _ z⟩
end

/-! ### the call of a function made in a def -/
/-- a thing's cells, taken away and put back -/
theorem minus_hok {P : Program} {w : World} {H : Hp} {h : Heap} {as : List Addr} (c : Ce H as) (ok : HOk P w H h) : HOk P w (minus H as) h := fun b o e => by
  obtain ⟨e1, n⟩ := minus_sub e
  exact (ok b o e1).stay (fun _ _ _ z => z) (fun d z => c.ne z fun _ _ y => nomatch y) fun d xs z => c.ne z fun _ _ y => nomatch y
theorem back_hok {P : Program} {w : World} {H1 H2 : Hp} {h h' : Heap} {as : List Addr} (c : Ce H1 as) (ok : HOk P w H1 h) (ok2 : HOk P w H2 h') (hn : ∀ a ∈ as, H2 a = none) (kp : ∀ a ∈ as, ∀ o, h.get? a = some o → h'.get? a = some o) : HOk P w (Gs.back H1 H2 as) h' := fun b o e => by
  by_cases hb : b ∈ as
  · rw [back_in hb] at e
    obtain ⟨ob, v, q⟩ := c.ce b hb
    rw [q] at e
    cases e
    obtain ⟨e1, ⟨u, r, o2, e2, e3⟩, _⟩ := ok b _ q
    rw [e1] at e2
    cases e2
    exact frz_cell (kp b hb _ e1) ⟨u, r, e3⟩
  · rw [back_ne hb] at e
    have key : ∀ d u, H2 d = some u → Gs.back H1 H2 as d = some u := fun d u z => by
      rw [back_ne fun hd => by rw [hn d hd] at z; exact nomatch z]
      exact z
    exact (ok2 b o e).stay (fun _ _ _ z => z) (fun d z => key _ _ z) fun d xs z => key _ _ z
theorem un_minus {fs : List Addr} {H1 H2 : Hp} {h h' : Heap} {as : List Addr} (c : Ce H1 as) (u : Un fs [] (minus H1 as) H2 h h') : Un fs [] H1 (Gs.back H1 H2 as) h h' where
  keep := fun b o e n hb hx => u.keep b o e (by unfold minus; split <;> first | rfl | exact n) hb hx
  slot := fun b o e n hb hx => u.slot b o e (by unfold minus; split <;> first | rfl | exact n) hb hx
  free := fun b o e n hx => by
    by_cases hb : b ∈ as
    · rw [back_in hb]; exact n
    · rw [back_ne hb]; exact u.free b o e (by unfold minus; rw [if_neg hb]; exact n) hx
  there := u.there
  tups := fun b xs e => by
    have hb : b ∉ as := fun hb => by obtain ⟨_, _, q⟩ := c.ce b hb; rw [q] at e; exact nomatch e
    rw [back_ne hb]; exact u.tups b xs (minus_of e hb)
  frzs := fun b o x e => by
    by_cases hb : b ∈ as
    · rw [back_in hb]; exact e
    · rw [back_ne hb]; exact u.frzs b o x (minus_of e hb)
  tbls := fun b ps e => by
    have hb : b ∉ as := fun hb => by obtain ⟨_, _, q⟩ := c.ce b hb; rw [q] at e; exact nomatch e
    rw [back_ne hb]; exact u.tbls b ps (minus_of e hb)
/-- f(..), f a name that holds a function made in a def that is gone: S, which functions it may be -/
def tClo (i : Nat) (M : NF → List Str → (List (Option V) → Sp) → Prop) (t : TA) : TE := fun σ H Q => ∃ f F0, σ[i]? = some (some (.ref f)) ∧ H f = some (FnO f F0) ∧ t σ H fun vs H1 => ∃ F fr sp us, H1 f = some (FnO f F) ∧ H1 F.c = some (CodeO F.c F.qual) ∧ M F fr sp ∧ CellsG H1 F.cl fr us ∧
  sp (us.map some) vs (minus H1 (cads F.cl fr)) (fun x H2 => (∀ a ∈ cads F.cl fr, H2 a = none) → Q x (Gs.back H1 H2 (cads F.cl fr))) fun _ _ _ => False
theorem CellsG.ce {G : Hp} {cl : List (Str × Addr)} {fr : List Str} {vs : List V} (c : CellsG G cl fr vs) : Ce G (cads cl fr) := ⟨fun a ha => by
  obtain ⟨y, hy, e⟩ := List.mem_filterMap.mp ha
  obtain ⟨i, hi⟩ := List.mem_iff_getElem?.mp hy
  obtain ⟨c', v, h1, h2, o, h3⟩ := c.has i y hi
  rw [e] at h1
  cases h1
  exact ⟨o, v, h3⟩⟩
section
variable {X : Cx} {pins : List (Addr × Obj)} {σ : L2.St} {H : Hp} {s : Shared}
theorem cellsAt_of {cl : List (Str × Addr)} {fr : List Str} {us : List V} (I : Inv X pins σ H s) (c : CellsG H cl fr us) : CellsAt cl fr (us.map some) s.heap (minus H (cads cl fr)) := by
  have at_ : ∀ (i : Nat) (y : Str), fr[i]? = some y → ∃ a v, cl.lookup y = some a ∧ us[i]? = some v ∧ ∃ u, L2.RelV v u ∧ s.heap.IsCell a (some u) := fun i y hi => by
    obtain ⟨a, v, h1, h2, o, h3⟩ := c.has i y hi
    obtain ⟨_, ⟨u, r, z⟩, _⟩ := I.hok a _ h3
    exact ⟨a, v, h1, h2, u, r, z⟩
  refine ⟨by rw [List.length_map]; exact c.len, fun y a e => ?_, c.inj, fun i y hi => ?_⟩
  · have hy := c.all y a e
    obtain ⟨i, hi⟩ := List.mem_iff_getElem?.mp hy
    obtain ⟨a', v, h1, h2, u, r, z⟩ := at_ i y hi
    rw [e] at h1
    cases h1
    refine ⟨minus_in (List.mem_filterMap.mpr ⟨y, hy, e⟩), _, z⟩
  · obtain ⟨a, v, h1, h2, u, r, z⟩ := at_ i y hi
    refine ⟨a, h1, fun v' e => ?_⟩
    rw [List.getElem?_map, h2] at e
    cases e
    exact ⟨u, r, z⟩
theorem run_clo {k : Nat} {f : Addr} {F : NF} {ps fr : List Str} {sp : List (Option V) → Sp} {us : List V} {vs : List V} {ws : List Value} {Q : VK} (Fn : NOk X.prog X.w X.K X.mg X.base (L2.CX X.prog X.w) k f F ps fr sp) (hr : Room k X.A) (I : Inv X pins σ H s) (hf : H f = some (FnO f F)) (hc : H F.c = some (CodeO F.c F.qual)) (c : CellsG H F.cl fr us) (r : Vals vs ws)
    (q : sp (us.map some) vs (minus H (cads F.cl fr)) (fun x H2 => (∀ a ∈ cads F.cl fr, H2 a = none) → Q x (Gs.back H H2 (cads F.cl fr))) fun _ _ _ => False) :
    wpAny (model X.prog X.w) X.A (call (.ref f) ws) (EP X pins σ Q) X.xe s := by
  have ce := c.ce
  have e := I.env0
  have e0 : Env0 X.prog X.w X.K X.mg X.base X.A X.stack s (minus H (cads F.cl fr)) := ⟨e.frames, e.mod, fun b o z => ⟨(e.bs b o z).1, by unfold minus; split <;> first | rfl | exact (e.bs b o z).2⟩, e.bsz, e.funs, fun b hb => by unfold minus; split <;> first | rfl | exact e.frf b hb, minus_hok ce e.hok, e.bare⟩
  have hf2 : minus H (cads F.cl fr) f = some (FnO f F) := ce.ne hf fun x φ z => nomatch z
  have hc2 : minus H (cads F.cl fr) F.c = some (CodeO F.c F.qual) := ce.ne hc fun x φ z => nomatch z
  refine wpAny_call (codeAny_mono (Fn.run X.A X.stack s _ ws vs _ _ _ hr e0 hf2 hc2 (cellsAt_of I c) r q) fun rr s' hq => ?_)
  cases rr with
  | error e => obtain ⟨_, _, _, _, _, _, _, _, _, _, _, _, z⟩ := hq; exact z.elim
  | ok fl =>
    cases fl with
    | ret u =>
      obtain ⟨x, H2, os, ag, un, ok, rv, q2⟩ := hq
      have cell : ∀ a ∈ cads F.cl fr, ∃ o, s.heap.get? a = some o := fun a ha => by
        obtain ⟨o, v, z⟩ := ce.ce a ha
        exact ⟨o, (I.hok a _ z).1⟩
      have hn : ∀ a ∈ cads F.cl fr, H2 a = none := fun a ha => by
        obtain ⟨o, z⟩ := cell a ha
        exact un.free a o z (minus_in ha) (fun z => nomatch z)
      have kp : ∀ a ∈ cads F.cl fr, ∀ o, s.heap.get? a = some o → s'.heap.get? a = some o := fun a ha o z => un.keep a o z (minus_in ha) (fun hb => by
        have y := e.frf a hb
        obtain ⟨o, v, y2⟩ := ce.ce a ha
        rw [y] at y2
        exact nomatch y2) (fun z => nomatch z)
      exact I.after ⟨x, Gs.back H H2 (cads F.cl fr), os, ag, un_minus ce un, back_hok ce I.hok ok hn kp, rv, q2 hn⟩
    | next => exact False.elim hq
    | brk => exact False.elim hq
    | cont => exact False.elim hq
end
section
variable {X : Cx} {M : NF → List Str → (List (Option V) → Sp) → Prop} {i j : Nat} {x : Str} {t : TA} {e : Expr} {es : List Expr} {p pos : Pos}
/-- all the functions that it may be keep what they promise -/
abbrev CloOk (P : Program) (w : World) (K : PySem.W.Frag) (mg : Str → Option Value) (base : Heap) (k : Nat) (M : NF → List Str → (List (Option V) → Sp) → Prop) : Prop := ∀ f F fr sp, M F fr sp → ∃ ps, NOk P w K mg base (L2.CX P w) k f F ps fr sp
theorem pe_clo (Fn : CloOk X.prog X.w X.K X.mg X.base j M) (hr : Room j X.A) (hN : X.N[i]? = some x) (hv : Vis X.env.scope x) (ha : PA X (e :: es) t)
    (hd : (x == ("__debug__" : Str)) = false := by decide) (hcd : (x == ("__classdict__" : Str)) = false := by decide)
    (he : starEach (e :: es) X.env = (false, eval e X.env) :: starEach es X.env := by rfl) (hpl : (backTo pos (starEach es X.env)).any (·.1) = false := by rfl) :
    PE X (.Call (.Name x p) (e :: es) [] pos) (tClo i M t) := by
  refine ⟨fun pins s σ H Q I h => ?_⟩
  obtain ⟨f, F0, hs, hf0, ht⟩ := h
  refine wpAny_Call_Name_kw (thn ((pe_var (pos := p) hN hv hd hcd).run pins s σ H (fun v H1 => v = .ref f ∧ H1 = H) I ⟨.ref f, hs, rfl, rfl⟩) fun u s1 ⟨v, H1, I1, r1, q1⟩ => ?_)
  obtain ⟨ev, eH⟩ := q1
  subst ev
  rw [eH] at I1
  obtain rfl : u = Value.ref f := r1
  refine PySem.W.callWith_F (first := []) (fnAt_of I1 hf0) (thn (ha.run pos pins s1 σ H _ I1 ht) fun us s2 ⟨vs, H2, I2, r, F, fr, sp, ws, h1, h2, h3, h4, q⟩ => ⟨fnAt_of I2 h1, ?_⟩) he hpl
  show wpAny _ _ (call (.ref f) us) _ _ _
  obtain ⟨ps, Fn⟩ := Fn f F fr sp h3
  exact run_clo Fn hr I2 h1 h2 h4 r q
theorem pe_clo0 (Fn : CloOk X.prog X.w X.K X.mg X.base j M) (hr : Room j X.A) (hN : X.N[i]? = some x) (hv : Vis X.env.scope x)
    (hd : (x == ("__debug__" : Str)) = false := by decide) (hcd : (x == ("__classdict__" : Str)) = false := by decide) :
    PE X (.Call (.Name x p) [] [] pos) (tClo i M tNil) := by
  refine ⟨fun pins s σ H Q I h => ?_⟩
  obtain ⟨f, F0, hs, hf0, F, fr, sp, ws, h1, h2, h3, h4, q⟩ := h
  refine wpAny_Call_Name_kw (thn ((pe_var (pos := p) hN hv hd hcd).run pins s σ H (fun v H1 => v = .ref f ∧ H1 = H) I ⟨.ref f, hs, rfl, rfl⟩) fun u s1 ⟨v, H1, I1, r1, q1⟩ => ?_)
  obtain ⟨ev, eH⟩ := q1
  subst ev
  rw [eH] at I1
  obtain rfl : u = Value.ref f := r1
  refine PySem.W.callWith_F0 (first := []) (fnAt_of I1 hf0) ?_
  show wpAny _ _ (call (.ref f) []) _ _ _
  obtain ⟨ps, Fn⟩ := Fn f F fr sp h3
  exact run_clo Fn hr I1 h1 h2 h4 .nil q
end
end Gs

/-! GCn: functions made in a def, over data: the def that makes them, their bodies, their calls. -/
namespace NdefX
open PySem PySem.Spec PyProof.Rows L2 LamX
/-- a table of code objects: what it tells -/
abbrev TabH (H : Hp) (ps : Array Value) (nm : Nat → Nat → Str) : Prop := TriplesOk ps.toList ∧ ∀ (pos : Pos) (cv : Value), codeAmong pos ps.toList = some cv → ∃ c, cv = .ref c ∧ H c = some (CodeO c (nm pos.line pos.col))
section
variable {X : Cx} {pins : List (Addr × Obj)} {σ : L2.St} {H : Hp} {s : Shared}
/-- the def's object is made: its code object is found in the table, or new -/
theorem ndef_makeG {nm : Nat → Nat → Str} {c P : Addr} {ps : Array Value} {name : Str} {params : Arguments} {body : List Stmt} {scope : Scope} {pos : Pos} {E : Value → Shared → Prop} {Q : Value → Shared → Prop} (I : Inv X pins σ H s) (TB : TabB X.base X.mg c P) (hcode : X.env.code = .ref c)
    (hn : nm pos.line pos.col = X.env.qual ++ name) (hP : H P = some (.tbl ps)) (hT : TabH H ps nm) (hfree : ∀ y ∈ scope.names, y.2 = .free → ∃ c, X.env.cells.lookup y.1 = some c)
    (h1 : ∀ (f c' : Addr) (s' : Shared), codeAmong pos ps.toList = some (.ref c') → H f = none → Inv X pins σ (upd H f (FnO f ⟨name, X.env.qual ++ name, params, body, scope, cloFrom X.env.cells scope.names [], c'⟩)) s' → Q (.ref f) s')
    (h2 : ∀ (f c' : Addr) (ps' : Array Value) (s' : Shared), H f = none → H c' = none → f ≠ c' → TriplesOk ps'.toList → (∀ (p : Pos) (cv : Value), codeAmong p ps'.toList = some cv → codeAmong p ps.toList = some cv ∨ (cv = .ref c' ∧ nm p.line p.col = X.env.qual ++ name)) →
      Inv X pins σ (upd (upd (upd H P (.tbl ps')) c' (CodeO c' (X.env.qual ++ name))) f (FnO f ⟨name, X.env.qual ++ name, params, body, scope, cloFrom X.env.cells scope.names [], c'⟩)) s' → Q (.ref f) s') :
    wpAny (model X.prog X.w) X.A (makeFunction name (X.env.qual ++ name) params (.stmts body) scope X.env [] [] [] pos pos.line) Q E s := by
  obtain ⟨ht, ha⟩ := hT
  have bP : s.heap.BuiltinsAt X.mg P := TB.bm.keeps I.bk
  have hP' : s.heap.get? P = some { cls := .none, data := .fields ps } := I.hok P _ hP
  cases hc : codeAmong pos ps.toList with
  | none =>
    refine PySem.W.makeFunction_K (mg := X.mg) (c := c) (P := P) (ps := ps) (closure_ok hfree) I.ok.glob (I.mod.glob.keeps I.bk) hcode (TB.code.keeps I.bk) hP' ht hc TB.gP bP fun c' ctv doc h' tk hx hge hlt hrec htb => ?_
    obtain ⟨c2, oc, vs, t, e2, hoc, hd, hv⟩ := hrec
    cases e2
    have nC : H c' = none := I.hok.fresh hge
    have I1 := inv_table (t' := tk) (more := #[rawInt pos.line, rawInt pos.col, .ref c']) (h' := h') I hP (fun b o hb e => hx b o hb e) htb hge ⟨oc, vs, t, hoc, hd, hv⟩
    have eL : (ps ++ #[rawInt pos.line, rawInt pos.col, .ref c']).toList = ps.toList ++ [rawInt pos.line, rawInt pos.col, .ref c'] := by simp
    have I2 := inv_fn (F := ⟨name, X.env.qual ++ name, params, body, scope, cloFrom X.env.cells scope.names [], c'⟩) (t' := tk) (doc := doc) (pm := (X.mg "__name__").getD .none) (ctv := ctv) I1 rfl
    refine h2 h'.objs.size c' _ _ (I.hok.fresh (Nat.le_trans hge (Nat.le_of_lt hlt))) nC (Nat.ne_of_gt hlt) (by rw [eL]; exact PySem.TriplesOk_snoc _ _ _ _ ht) (fun p cv hcv => ?_) I2
    rw [eL] at hcv
    rcases among_app2 _ ht hcv with z | ⟨z, z1, z2⟩
    · exact .inl z
    · exact .inr ⟨z, by rw [← z1, ← z2]; exact hn⟩
  | some cv =>
    obtain ⟨c', e, hco⟩ := ha pos cv hc
    subst e
    refine PySem.W.makeFunction_hit (mg := X.mg) (c := c) (P := P) (ps := ps) (closure_ok hfree) I.ok.glob (I.mod.glob.keeps I.bk) hcode (TB.code.keeps I.bk) hP' ht hc bP fun ctv doc h' tk hx hsz => ?_
    have I1 : Inv X pins σ H { s with heap := h', toks := tk } := I.kept hx
    have nF : H h'.objs.size = none := I1.hok.fresh (Nat.le_refl _)
    have I2 := inv_fn (F := ⟨name, X.env.qual ++ name, params, body, scope, cloFrom X.env.cells scope.names [], c'⟩) (t' := tk) (doc := doc) (pm := (X.mg "__name__").getD .none) (ctv := ctv) I1 rfl
    exact h1 h'.objs.size c' _ hc nF I2
end
/-- the reading of «def name(..)» in a def's body, the table at P -/
def tNdefG (P : Addr) (nm : Nat → Nat → Str) (pos : Pos) (q : Str) (i : Nat) (mk : Addr → NF) : TS := fun D σ H => ∃ ps, H P = some (.tbl ps) ∧ TabH H ps nm ∧
  (∀ f c', i < σ.length → codeAmong pos ps.toList = some (.ref c') → H f = none → D.nx (σ.set i (some (.ref f))) (upd H f (FnO f (mk c')))) ∧
  (∀ (f c' : Addr) (ps' : Array Value), i < σ.length → H f = none → H c' = none → f ≠ c' → TriplesOk ps'.toList → (∀ (p : Pos) (cv : Value), codeAmong p ps'.toList = some cv → codeAmong p ps.toList = some cv ∨ (cv = .ref c' ∧ nm p.line p.col = q)) →
    D.nx (σ.set i (some (.ref f))) (upd (upd (upd H P (.tbl ps')) c' (CodeO c' q)) f (FnO f (mk c'))))
theorem ps_ndefG {X : Cx} {st : Stmt} {nm : Nat → Nat → Str} {c P : Addr} {name q : Str} {pos : Pos} {i : Nat} (hst : st = .FunctionDef name (C8.fnArgs st) (C8.fnBody st) [] none [] (C8.fnScope st) none name pos) (TB : TabB X.base X.mg c P) (hcode : X.env.code = .ref c) (hq : X.env.qual ++ name = q) (hn : nm pos.line pos.col = q)
    (hfree : ∀ y ∈ (C8.fnScope st).names, y.2 = .free → X.env.scope.names.lookup y.1 = some .cell ∨ X.env.scope.names.lookup y.1 = some .free) (hd0 : (C8.fnArgs st).defaults = []) (hk0 : (C8.fnArgs st).kw_defaults = []) (ha : annTrees (C8.fnArgs st) none X.env = [])
    (hN : X.N.Nodup) (hi : X.N[i]? = some name) (hx : Loc X.env.scope name) (hf : X.fn name = true ∨ X.env.scope.names.lookup name = some .local) :
    PS X st (tNdefG P nm pos q i (NF.of st name q (cloFrom X.env.cells (C8.fnScope st).names []))) := by
  subst hq
  rw [hst]
  refine ⟨fun pins s σ H D I h => ?_⟩
  obtain ⟨ps, hP, hT, h1, h2⟩ := h
  have hq : qualnameIn X.env name name = X.env.qual ++ name := by
    have hk : X.env.kindOf name = some .local ∨ X.env.kindOf name = some .cell := hx
    unfold qualnameIn
    rcases hk with k | k <;> rw [k] <;> first | rfl | exact if_neg (by decide)
  refine PySem.W.nestDef_K hd0 hk0 ha ?_
  rw [hq]
  have hfr : ∀ y ∈ (C8.fnScope st).names, y.2 = .free → ∃ c, X.env.cells.lookup y.1 = some c := fun y hy e => (hfree y hy e).elim (fun z => I.ok.has _ (.inl z)) fun z => I.ok.has _ (.inr z)
  rw [← hst] at *
  have hl : i < σ.length := by rw [I.len]; exact (List.getElem?_eq_some_iff.mp hi).1
  refine ndef_makeG I TB hcode hn hP hT hfr (fun f c' s' e f0 I1 => ?_) (fun f c' ps' s' f0 c0 ne t a I1 => ?_)
  · exact store_ok I1 hN hi hx (v := .ref f) rfl (fun s'' J => ⟨_, _, J, h1 f c' hl e f0⟩) hf
  · exact store_ok I1 hN hi hx (v := .ref f) rfl (fun s'' J => ⟨_, _, J, h2 f c' ps' hl f0 c0 ne t a⟩) hf
end NdefX

/-! GCo: functions made in a def, over data. -/
namespace Gs
open PySem PySem.Spec PyProof.Rows L2 NdefX LamX
section
variable {K : PySem.W.Frag} {ct : String → Addr}
/-- what a function made in a def promises: F of what it captured, of the arguments -/
def spN (K : PySem.W.Frag) (ct : String → Addr) (n : Nat) (F : List D → List D → Sto → R D) : List (Option V) → Sp := fun ws vs H Q E => ∃ v ds cs us, v.H = H ∧ SR K ct v ∧ ds.length = n ∧ RepL K ct v.G v.m ds vs ∧ ws = us.map some ∧ RepL K ct v.G v.m cs us ∧ match F cs ds v.st with
  | .ok d s => ∀ x v', Le v v' → SR K ct v' → v'.st = s → Rep K ct v'.G v'.m d x → Q x v'.H
  | _ => False
def runN (N : Nat) (body : S) (cs ds : List D) (s : Sto) : R D := match body (ds.map some ++ (cs.map some ++ List.replicate (N - ds.length - cs.length) none)) s with
  | .nx _ s' => .ok .non s'
  | .rt d s' => .ok d s'
  | _ => .stk
theorem re_startN {C : Cc} {v : Vw} {ds cs : List D} {vs us : List V} {N : List Str} (l : Le C.v0 v) (sr : SR K C.ct v) (r : RepL K C.ct v.G v.m ds vs) (q : RepL K C.ct v.G v.m cs us) (hn : ds.length + cs.length ≤ N.length) :
    RE K C (startF N vs (us.map some)) (ds.map some ++ (cs.map some ++ List.replicate (N.length - ds.length - cs.length) none)) v := by
  have h1 := r.length
  have h2 := q.length
  have key : RepL K C.ct v.G v.m (ds ++ cs) (vs ++ us) := r.append q
  have e1 : ds.map some ++ (cs.map some ++ List.replicate (N.length - ds.length - cs.length) (none : Option D)) = (ds ++ cs).map some ++ List.replicate (N.length - (ds ++ cs).length) none := by
    rw [List.map_append, List.append_assoc, List.length_append, Nat.sub_sub]
  have e2 : startF N vs (us.map some) = L2.start N (vs ++ us) := by
    unfold startF L2.start
    rw [List.map_append, List.append_assoc, List.length_append, List.length_map, Nat.sub_sub]
  rw [e1, e2]
  exact re_start l sr key (by rw [List.length_append]; exact hn)
end
section
variable {P : Program} {w : World} {K : PySem.W.Frag} {mg : Str → Option Value} {base : Heap} {ct : String → Addr}
theorem nk_ok {st : Stmt} {name qual : Str} {N ps fr : List Str} {k : Nat} {body : S} (sc : NScope N ps fr (C8.fnScope st)) (hn : ps.length + fr.length ≤ N.length)
    (hb0 : ∀ (cl : List (Str × Addr)) (c : Addr) (doc pm ctv : Value) (us : List Value), us.length = ps.length → bindArgs ((NF.of st name qual cl c).fd doc pm ctv) ⟨us, []⟩ = pure (ps.zip us))
    (hb : ∀ (cl : List (Str × Addr)) (c f : Addr) (A : Around) (outer : List Env) (s : Shared) (H : Hp) (E : XK) (v : Vw), Room k (A.deeper (envF (NF.of st name qual cl c) f s.heap.objs.size)) →
      SSs (ncx (L2.CX P w) P w K mg base N (NF.of st name qual cl c) f A outer s H E) ⟨v, ct, fun _ _ _ _ => False⟩ (C8.fnBody st) body) :
    ∀ f cl c, NOk P w K mg base (L2.CX P w) (k + 1) f (NF.of st name qual cl c) ps fr (fun ws vs H Q E => ws.length = fr.length ∧ spN K ct ps.length (runN N.length body) ws vs H Q E) := by
  intro f cl c
  refine nok_of (N := N) sc (hb0 cl c) (fun ws vs H Q E ⟨_, v, ds, cs, us, e, sr, l, r, _⟩ => by rw [← l, r.length]) (fun A outer s H vs ws Q E hr hf hc hl ⟨_, v, ds, cs, us, e, sr, l, r, ew, q, h⟩ => ⟨_, hb cl c f A outer s H E v hr, ?_⟩)
  subst e
  subst ew
  have hl' : cs.length = fr.length := by rw [q.length, ← hl, List.length_map]
  have rs : RE K ⟨v, ct, fun _ _ _ _ => False⟩ (startF N vs (us.map some)) (ds.map some ++ (cs.map some ++ List.replicate (N.length - ds.length - cs.length) none)) v := re_startN .refl sr r q (by omega)
  refine ⟨_, v, rs, rfl, ?_⟩
  unfold runN at h
  cases e : body (ds.map some ++ (cs.map some ++ List.replicate (N.length - ds.length - cs.length) none)) v.st with
  | nx δ s => rw [e] at h; exact fun σ' v' re l es => h .non v' l re.sr es .non
  | rt d s => rw [e] at h; exact fun x v' l sr' es r => h x v' l sr' es r
  | exc e2 δ s => rw [e] at h; exact h.elim
  | bk δ s => rw [e] at h; exact h.elim
  | ct δ s => rw [e] at h; exact h.elim
  | stk => rw [e] at h; exact h.elim
end

/-! ### a call -/
/-- what the functions made in defs say -/
abbrev CT := Clo → Option (List D → List D → Sto → R D)
/-- they keep it -/
abbrev CloT (K : PySem.W.Frag) (ct : String → Addr) (T : CT) (n : Nat) : NF → List Str → (List (Option V) → Sp) → Prop := fun F fr sp => ∃ k Fn cl c, F = NF.of k.st k.name k.qual cl c ∧ fr = k.fr ∧ T k = some Fn ∧ sp = fun ws vs H Q E => ws.length = fr.length ∧ spN K ct n Fn ws vs H Q E
def eClo (T : CT) (i : Nat) (a : As) : E := fun δ s => match δ[i]? with
  | some (some (.clo k cs)) => (match T k with
    | some F => (a δ s).bind fun ds s1 => if nocL ds = true ∧ nocS s1 = true then (match F cs ds s1 with
      | .ok d s2 => .ok d s2
      | _ => .stk) else .stk
    | none => .stk)
  | _ => .stk
section
variable {X : Cx} {C : Cc} {pos p : Pos} {x : Str} {e : Expr} {es : List Expr} {fa : As} {T : CT} {i n k : Nat}
theorem clo_lift {t : TA} (hl : LenA fa n) (hta : ∀ σ H Q, liftA X.K C fa σ H Q → t σ H Q) {σ : L2.St} {H : Hp} {Q : VK} (h : liftE X.K C (eClo T i fa) σ H Q) : tClo i (CloT X.K C.ct T n) t σ H Q := by
  obtain ⟨δ, v, re, rfl, h⟩ := h
  unfold eClo at h
  cases q : δ[i]? with
  | none => rw [q] at h; exact h.elim
  | some o =>
    cases o with
    | none => rw [q] at h; exact h.elim
    | some d =>
      cases d with
      | clo k cs =>
        rw [q] at h
        simp only at h
        cases z : T k with
        | none => rw [z] at h; exact h.elim
        | some F =>
          rw [z] at h
          simp only at h
          obtain ⟨y, ey, ry⟩ := re.sl i _ q
          cases ry with
          | @clo _ _ f F0 _ us _ g1 g2 eF cg rl =>
            refine ⟨f, F0, ey, re.sr.sub _ _ g1, hta _ _ _ ⟨δ, v, re, rfl, on_mono (on_eq (on_bind (rel := rA X.K C.ct) h)) fun ds vs v1 l1 s1 r1 h1 => ?_⟩⟩
            obtain ⟨h1, s2, q2⟩ := h1
            have cg1 : CellsG v1.G F0.cl k.fr us := cg.mono l1.g
            have ce := cg1.ce
            refine ⟨F0, k.fr, _, us, s1.sub _ _ (l1.g _ _ g1), s1.sub _ _ (l1.g _ _ g2), ⟨k, F, F0.cl, F0.c, eF, rfl, z, rfl⟩, cg1.mono s1.sub, ?_⟩
            split at h1
            · rename_i hc
              refine ⟨by rw [List.length_map]; exact cg1.len, v1.less (cads F0.cl k.fr), ds, cs, us, rfl, less_ok s1 ce hc.2, hl _ _ _ _ q2, r1.less ce hc.1, rfl, RepL.mono (minus_mono l1.g _) l1.m rl, ?_⟩
              show match F cs ds v1.st with
                | .ok d s => _
                | _ => False
              cases y2 : F cs ds v1.st with
              | stk => rw [y2] at h1; exact h1.elim
              | exc e2 s3 => rw [y2] at h1; exact h1.elim
              | ok d s3 =>
                rw [y2] at h1
                intro x2 v' l sr es rx hn
                obtain ⟨l2, sr2, sm⟩ := back_ok s1 ce l sr hn
                exact h1 x2 (v1.back v' (cads F0.cl k.fr)) l2 sr2 es (rx.mono sm .refl)
            · exact h1.elim
      | non => rw [q] at h; exact h.elim
      | bl b => rw [q] at h; exact h.elim
      | int b => rw [q] at h; exact h.elim
      | str b => rw [q] at h; exact h.elim
      | tup b => rw [q] at h; exact h.elim
      | lst b => rw [q] at h; exact h.elim
      | dct b c => rw [q] at h; exact h.elim
      | ob b => rw [q] at h; exact h.elim
      | fn b => rw [q] at h; exact h.elim
      | ev b c d => rw [q] at h; exact h.elim
theorem se_clo (Fn : CloOk X.prog X.w X.K X.mg X.base k (CloT X.K C.ct T n)) (hr : Room k X.A) (ha : SA X C (e :: es) fa) (hl : LenA fa n) (hN : X.N[i]? = some x := by rfl) (hv : Vis X.env.scope x := by first | exact Or.inl rfl | exact Or.inr (Or.inl rfl) | exact Or.inr (Or.inr rfl))
    (hd : (x == ("__debug__" : Str)) = false := by decide) (hcd : (x == ("__classdict__" : Str)) = false := by decide)
    (he : starEach (e :: es) X.env = (false, eval e X.env) :: starEach es X.env := by rfl) (hpl : (backTo pos (starEach es X.env)).any (·.1) = false := by rfl) :
    SE X C (.Call (.Name x p) (e :: es) [] pos) (eClo T i fa) :=
  pe_weak (pe_clo Fn hr hN hv ha hd hcd he hpl) fun σ H Q h => clo_lift hl (fun _ _ _ z => z) h
theorem se_clo0 (Fn : CloOk X.prog X.w X.K X.mg X.base k (CloT X.K C.ct T 0)) (hr : Room k X.A) (hN : X.N[i]? = some x := by rfl) (hv : Vis X.env.scope x := by first | exact Or.inl rfl | exact Or.inr (Or.inl rfl) | exact Or.inr (Or.inr rfl))
    (hd : (x == ("__debug__" : Str)) = false := by decide) (hcd : (x == ("__classdict__" : Str)) = false := by decide) :
    SE X C (.Call (.Name x p) [] [] pos) (eClo T i aNil) :=
  pe_weak (pe_clo0 Fn hr hN hv hd hcd) fun σ H Q h => clo_lift (fa := aNil) lenA_nil (fun σ H Q ⟨δ, v, re, eH, h⟩ => by subst eH; exact on_self (b := []) re.sr h .nil) h
end
/-- a table of such functions, one by one -/
noncomputable def ctNil : CT := fun _ => none
open Classical in
noncomputable def ctAdd (k : Clo) (F : List D → List D → Sto → R D) (T : CT) : CT := fun k' => if k' = k then some F else T k'
theorem ctAdd_same {k : Clo} {F : List D → List D → Sto → R D} {T : CT} : ctAdd k F T k = some F := if_pos rfl
theorem ctAdd_ne {k k' : Clo} {F : List D → List D → Sto → R D} {T : CT} (h : k'.qual ≠ k.qual) : ctAdd k F T k' = T k' := if_neg fun e => h (by rw [e])
section
variable {P : Program} {w : World} {K : PySem.W.Frag} {mg : Str → Option Value} {base : Heap} {ct : String → Addr} {n k : Nat}
theorem cloT_nil : CloOk P w K mg base k (CloT K ct ctNil n) := fun f F fr sp ⟨_, _, _, _, _, _, z, _⟩ => nomatch z
theorem cloT_add {c : Clo} {Fn : List D → List D → Sto → R D} {T : CT} {ps : List Str} {j : Nat} (h : ∀ f cl cc, NOk P w K mg base (L2.CX P w) j f (NF.of c.st c.name c.qual cl cc) ps c.fr (fun ws vs H Q E => ws.length = c.fr.length ∧ spN K ct n Fn ws vs H Q E)) (hj : j ≤ k) (r : CloOk P w K mg base k (CloT K ct T n)) :
    CloOk P w K mg base k (CloT K ct (ctAdd c Fn T) n) := fun f F fr sp ⟨k', Fn', cl, cc, e1, e2, z, e3⟩ => by
  unfold ctAdd at z
  split at z
  · rename_i e
    cases z
    subst e
    subst e1
    subst e2
    subst e3
    exact ⟨ps, (h f cl cc).mono hj⟩
  · exact r f F fr sp ⟨k', Fn', cl, cc, e1, e2, z, e3⟩
end
end Gs

/-! GCp: a def that tells functions made in it. -/
namespace Gs
open PySem PySem.Spec PyProof.Rows L2 NdefX LamX
section
variable {K : PySem.W.Frag} {ct : String → Addr}
theorem tab_at {v : Vw} {τ : Nat} {x : String} {nm : Nat → Nat → Str} (sr : SR K ct v) (e : v.st[τ]? = some (.tab x nm)) : v.m τ = some (ct x) ∧ ∃ ps, v.H (ct x) = some (.tbl ps) ∧ TriplesOk ps.toList ∧ ∀ (pos : Pos) (cv : Value), codeAmong pos ps.toList = some cv → ∃ c, cv = .ref c ∧ v.G c = some (CodeO c (nm pos.line pos.col)) := by
  obtain ⟨a, em, ga, e1, ps, h, t, r⟩ := sr.obj τ _ e rfl
  subst e1
  exact ⟨em, ps, h, t, r⟩
theorem set_self {α : Type} : ∀ {l : List α} {i : Nat} {x : α}, l[i]? = some x → l.set i x = l
  | [], _, _, h => by simp at h
  | a :: l, 0, x, h => by simp at h; subst h; rfl
  | a :: l, i + 1, x, h => by simp at h; simp [set_self h]
/-- behind the def: the view with the function -/
theorem def_ok {v : Vw} {τ : Nat} {x : String} {nm : Nat → Nat → Str} {pos : Pos} {q : Str} {mk : Addr → NF} {i : Nat} {D : Ends} {σ : L2.St} (sr : SR K ct v) (e : v.st[τ]? = some (.tab x nm)) (hq : nm pos.line pos.col = q)
    (h : ∀ f c' v1, i < σ.length → Le v v1 → SR K ct v1 → v1.st = v.st → v1.m = v.m → v1.G f = some (FnO f (mk c')) → v1.G c' = some (CodeO c' q) → D.nx (σ.set i (some (.ref f))) v1.H) : tNdefG (ct x) nm pos q i mk D σ v.H := by
  obtain ⟨em, ps, hP, ht, ha⟩ := tab_at sr e
  refine ⟨ps, hP, ⟨ht, fun p cv hc => let ⟨c, e1, e2⟩ := ha p cv hc; ⟨c, e1, sr.sub _ _ e2⟩⟩, fun f c' hi hc nf => ?_, fun f c' ps' hi nf nc ne ht' ha' => ?_⟩
  · obtain ⟨c, e1, e2⟩ := ha pos _ hc
    cases e1
    rw [hq] at e2
    obtain ⟨l1, s1⟩ := new_ok (o := FnO f (mk c')) sr nf
    exact h f c' (v.new f (FnO f (mk c'))) hi l1 s1 rfl rfl upd_same (l1.g _ _ e2)
  · have neP : c' ≠ ct x := fun z => by rw [z, hP] at nc; exact nomatch nc
    have nfP : f ≠ ct x := fun z => by rw [z, hP] at nf; exact nomatch nf
    obtain ⟨l1, s1⟩ := new_ok (o := CodeO c' q) sr nc
    have e1 : (v.new c' (CodeO c' q)).st[τ]? = some (.tab x nm) := e
    obtain ⟨l2, s2⟩ := put_ok (v := v.new c' (CodeO c' q)) (i := τ) (a := ct x) (u := .tbl ps') (o := .tab x nm) s1 e1 rfl em (fun C b fs z => nomatch z) ⟨rfl, ps', upd_same, ht', fun p cv hc => by
      rcases ha' p cv hc with z | ⟨z, z2⟩
      · obtain ⟨c, y1, y2⟩ := ha p cv z
        exact ⟨c, y1, l1.g _ _ y2⟩
      · subst z
        exact ⟨c', rfl, by rw [z2]; exact upd_same⟩⟩
    have nf2 : ((v.new c' (CodeO c' q)).put τ (ct x) (.tbl ps') (.tab x nm)).H f = none := by
      show upd (upd v.H c' _) (ct x) _ f = none
      rw [upd_ne nfP, upd_ne ne]
      exact nf
    obtain ⟨l3, s3⟩ := new_ok (o := FnO f (mk c')) s2 nf2
    have hst : (((v.new c' (CodeO c' q)).put τ (ct x) (.tbl ps') (.tab x nm)).new f (FnO f (mk c'))).st = v.st := set_self e
    have hH : (((v.new c' (CodeO c' q)).put τ (ct x) (.tbl ps') (.tab x nm)).new f (FnO f (mk c'))).H = upd (upd (upd v.H (ct x) (.tbl ps')) c' (CodeO c' q)) f (FnO f (mk c')) := by
      show upd (upd (upd v.H c' _) (ct x) _) f _ = _
      congr 1
      funext b
      unfold upd
      by_cases z : b = ct x
      · rw [if_pos z, if_neg (fun y => neP (y.symm.trans z)), if_pos z]
      · rw [if_neg z]
        by_cases y : b = c'
        · rw [if_pos y, if_pos y]
        · rw [if_neg y, if_neg y, if_neg z]
    have fin := h f c' _ hi ((l1.trans l2).trans l3) s3 hst rfl upd_same (by
      show upd (upd v.G c' _) f _ c' = _
      rw [upd_ne (Ne.symm ne)]
      exact upd_same)
    rw [hH] at fin
    exact fin
end

/-! ### when the frame is gone -/
def takeS (δ : Sl) : List Nat → Option (List D)
  | [] => some []
  | j :: js => match δ[j]?, takeS δ js with
    | some (some d), some ds => some (d :: ds)
    | _, _ => none
section
variable {K : PySem.W.Frag} {C : Cc} {σ : L2.St} {δ : Sl} {v : Vw}
theorem takeS_at (re : RE K C σ δ v) : ∀ {js : List Nat} {ds : List D}, takeS δ js = some ds → ∃ vs, vs.length = js.length ∧ (∀ (n j : Nat), js[n]? = some j → ∃ x, vs[n]? = some x ∧ σ[j]? = some (some x)) ∧ RepL K C.ct v.G v.m ds vs
  | [], ds, e => by
    simp only [takeS, Option.some.injEq] at e
    subst e
    exact ⟨[], rfl, fun n j h => by simp at h, .nil⟩
  | j :: js, ds, e => by
    simp only [takeS] at e
    split at e
    · rename_i d ds' q1 q2
      simp only [Option.some.injEq] at e
      subst e
      obtain ⟨x, ex, rx⟩ := re.sl j d q1
      obtain ⟨vs, h1, h2, h3⟩ := takeS_at re q2
      refine ⟨x :: vs, by simp [h1], fun n k hk => ?_, .cons rx h3⟩
      cases n with
      | zero =>
        simp only [List.getElem?_cons_zero, Option.some.injEq] at hk
        subst hk
        exact ⟨x, rfl, ex⟩
      | succ n =>
        simp only [List.getElem?_cons_succ] at hk ⊢
        exact h2 n k hk
    · exact nomatch e
end
/-- the view with the cells that are left -/
def Vw.lend (v : Vw) (cs : Lt) : Vw := ⟨Gs.lend v.G cs, Gs.lend v.H cs, v.m, v.st⟩
theorem lend_view {K : PySem.W.Frag} {ct : String → Addr} {v : Vw} {h : Heap} {cs : Lt} (sr : SR K ct v) (L : Lend v.H h cs) : Le v (v.lend cs) ∧ SR K ct (v.lend cs) := by
  have sG : Same v.G (Gs.lend v.G cs) := fun b o e => by rw [lend_none (L.nn (sr.sub _ _ e))]; exact e
  refine grow_ok sr sG L.same (fun b o e => ?_) fun b q => ?_
  · cases z : cs b with
    | none => rw [lend_none z] at e ⊢; exact sr.sub _ _ e
    | some p => obtain ⟨ob, x⟩ := p; rw [lend_some z] at e ⊢; exact e
  · cases z : cs b with
    | none => rw [lend_none z] at q; exact .inl q
    | some p => exact .inr (L.free b p z)
/-- what a function captures stands among these names and slots -/
structure Cap (X : Cx) (ys : List (Str × Nat)) (k : Clo) (js : List Nat) : Prop where
  free : ∀ y ∈ (C8.fnScope k.st).names, y.2 = .free → X.env.scope.names.lookup y.1 = some .cell ∨ X.env.scope.names.lookup y.1 = some .free
  all : ∀ y ∈ (C8.fnScope k.st).names, y.2 = .free → y.1 ∈ k.fr
  fr : ∀ y ∈ k.fr, (y, NameKind.free) ∈ (C8.fnScope k.st).names
  len : k.fr.length = js.length
  in_ : ∀ p ∈ k.fr.zip js, p ∈ ys
section
variable {X : Cx} {ct : String → Addr} {ys : List (Str × Nat)} {σ : L2.St} {s : Shared} {v : Vw} {k : Clo} {js : List Nat} {vs : List V} {ds : List D} {f c : Addr}
theorem clo_rep (sr : SR X.K ct v) (I : Inv X [] σ v.H s) (W : Own X ys) (cp : Cap X ys k js) (hl : vs.length = js.length) (hv : ∀ (n j : Nat), js[n]? = some j → ∃ x, vs[n]? = some x ∧ σ[j]? = some (some x)) (r : RepL X.K ct v.G v.m ds vs)
    (h1 : v.G f = some (FnO f (NF.of k.st k.name k.qual (cloFrom X.env.cells (C8.fnScope k.st).names []) c))) (h2 : v.G c = some (CodeO c k.qual)) : Rep X.K ct (v.lend (lentOf X σ s.heap ys)).G (v.lend (lentOf X σ s.heap ys)).m (.clo k ds) (.ref f) := by
  have L := lent_lend I W
  obtain ⟨l3, s3⟩ := lend_view sr L
  have hf : ∀ y ∈ (C8.fnScope k.st).names, y.2 = .free → ∃ c, X.env.cells.lookup y.1 = some c := fun y hy e => (cp.free y hy e).elim (fun z => I.ok.has _ (.inl z)) fun z => I.ok.has _ (.inr z)
  have at_ : ∀ (n : Nat) (y : Str), k.fr[n]? = some y → ∃ c v, (cloFrom X.env.cells (C8.fnScope k.st).names []).lookup y = some c ∧ vs[n]? = some v ∧ ∃ o, lentOf X σ s.heap ys c = some (o, v) := fun n y hy => by
    have hn : n < js.length := by rw [← cp.len]; exact (List.getElem?_eq_some_iff.mp hy).1
    have hj := List.getElem?_eq_getElem hn
    obtain ⟨x, hx, hs⟩ := hv n _ hj
    have hm : (y, js[n]) ∈ k.fr.zip js := List.mem_iff_getElem?.mpr ⟨n, by rw [List.getElem?_zip_eq_some]; exact ⟨hy, hj⟩⟩
    obtain ⟨c, o, hc, hlt⟩ := lent_get I W (cp.in_ _ hm) hs
    exact ⟨c, x, clo_has hf (cp.fr y (List.mem_of_getElem? hy)) hc, hx, o, hlt⟩
  have cg : CellsG (v.lend (lentOf X σ s.heap ys)).G (cloFrom X.env.cells (C8.fnScope k.st).names []) k.fr vs := by
    refine ⟨by rw [hl, cp.len], fun x y c e1 e2 => I.ok.inj _ _ c (clo_cm hf e1) (clo_cm hf e2), fun y c e => ?_, fun n y hy => ?_⟩
    · rcases cloFrom_mem (PySem.mem_of_lookup e) with hm | ⟨h1, h2⟩
      · exact nomatch hm
      · exact cp.all _ h1 rfl
    · obtain ⟨c, x, e1, e2, o, e3⟩ := at_ n y hy
      exact ⟨c, x, e1, e2, o, lend_some e3⟩
  refine .clo (F := NF.of k.st k.name k.qual (cloFrom X.env.cells (C8.fnScope k.st).names []) c) (l3.g _ _ h1) (l3.g _ _ h2) rfl cg (r.mono (fun b o e => ?_) .refl)
  refine minus_of (l3.g _ _ e) fun hb => ?_
  obtain ⟨y, hy, e2⟩ := List.mem_filterMap.mp hb
  obtain ⟨n, hn⟩ := List.mem_iff_getElem?.mp hy
  obtain ⟨c, x, e3, _, o2, e4⟩ := at_ n y hn
  rw [show (cloFrom X.env.cells (C8.fnScope k.st).names []).lookup y = some b from e2] at e3
  cases e3
  rw [L.nn (sr.sub _ _ e)] at e4
  exact nomatch e4
end
/-- what is wanted of a def's result when its frame is gone -/
def RX (X : Cx) (ys : List (Str × Nat)) (Q : VK) : V → L2.St → Hp → Prop := fun x σ' H' => ∀ s', Inv X [] σ' H' s' → Q x (lend H' (lentOf X σ' s'.heap ys))
abbrev RL := Sl → Sto → R D
def onR (K : PySem.W.Frag) (C : Cc) (v : Vw) (r : R D) (Q : VK) : Prop := match r with
  | .ok d s => ∀ x v', Le v v' → SR K C.ct v' → v'.st = s → Rep K C.ct v'.G v'.m d x → Q x v'.H
  | .exc e s => ∀ cls dd σ' v', Le v v' → SR K C.ct v' → v'.st = s → RepX K C.ct v' e cls dd → C.W cls dd σ' v'.H
  | .stk => False
def liftR (C : Cc) (X : Cx) (ys : List (Str × Nat)) (f : RL) : (V → L2.St → Hp → Prop) → L2.St → Hp → Prop := fun R σ H => ∃ δ v Q, RE X.K C σ δ v ∧ v.H = H ∧ (∀ x σ' H', RX X ys Q x σ' H' → R x σ' H') ∧ onR X.K C v (f δ v.st) Q
abbrev SRt (X : Cx) (C : Cc) (ys : List (Str × Nat)) (st : List Stmt) (f : RL) : Prop := PSR X st (liftR C X ys f)
theorem psr_weak {X : Cx} {st : List Stmt} {t t' : (V → L2.St → Hp → Prop) → L2.St → Hp → Prop} (h : PSR X st t) (w : ∀ R σ H, t' R σ H → t R σ H) : PSR X st t' := ⟨fun pins s σ H R I z => h.run pins s σ H R I (w R σ H z)⟩
theorem onR_same {K : PySem.W.Frag} {C : Cc} {v v' : Vw} {r : R D} {Q : VK} (l : Le v v') (h : onR K C v r Q) : onR K C v' r Q := by
  cases r with
  | ok d s => exact fun x w z => h x w (l.trans z)
  | exc e s => exact fun cls dd σ' w z => h cls dd σ' w (l.trans z)
  | stk => exact h
def rSeq (f : S) (g : RL) : RL := fun δ s => match f δ s with
  | .nx δ' s' => g δ' s'
  | .exc e _ s' => .exc e s'
  | _ => .stk
open Classical in
noncomputable def rRet1 (τ : Nat) (x : String) (nm : Nat → Nat → Str) (k : Clo) (js : List Nat) : RL := fun δ s => if s[τ]? = some (.tab x nm) then (match takeS δ js with
  | some ds => .ok (.clo k ds) s
  | none => .stk) else .stk
open Classical in
noncomputable def rRet2 (τ : Nat) (x : String) (nm : Nat → Nat → Str) (k : Clo) (js : List Nat) (k2 : Clo) (js2 : List Nat) : RL := fun δ s => if s[τ]? = some (.tab x nm) then (match takeS δ js, takeS δ js2 with
  | some ds, some ds2 => .ok (.tup [.clo k ds, .clo k2 ds2]) s
  | _, _ => .stk) else .stk
/-- the words of a def in a def's body -/
structure DefW (X : Cx) (k : Clo) (st : Stmt) (pos : Pos) (nm : Nat → Nat → Str) (i : Nat) : Prop where
  eq : k.st = st
  sh : st = .FunctionDef k.name (C8.fnArgs st) (C8.fnBody st) [] none [] (C8.fnScope st) none k.name pos
  q : X.env.qual ++ k.name = k.qual
  nm : nm pos.line pos.col = k.qual
  d0 : (C8.fnArgs st).defaults = []
  k0 : (C8.fnArgs st).kw_defaults = []
  an : annTrees (C8.fnArgs st) none X.env = []
  at_ : X.N[i]? = some k.name
  loc : X.env.scope.names.lookup k.name = some .local
section
variable {X : Cx} {C : Cc} {ys : List (Str × Nat)} {pos p p1 p2 : Pos} {st st2 : Stmt} {rest : List Stmt} {f : S} {g : RL} {nm : Nat → Nat → Str} {τ i i2 : Nat} {x : String} {k k2 : Clo} {js js2 : List Nat} {c : Addr}
theorem rr_cons (h1 : SS X C st f) (h2 : SRt X C ys rest g) : SRt X C ys (st :: rest) (rSeq f g) := psr_weak (psr_cons h1 h2) fun R σ H ⟨δ, v, Q, re, eH, hR, h⟩ => by
  refine ⟨δ, v, re, eH, ?_⟩
  unfold rSeq at h
  cases e : f δ v.st with
  | nx δ' s' =>
    rw [e] at h
    exact fun σ' v' re' l es => ⟨δ', v', Q, re', rfl, hR, by subst es; exact onR_same l h⟩
  | rt d s' => rw [e] at h; exact h.elim
  | bk δ' s' => rw [e] at h; exact h.elim
  | ct δ' s' => rw [e] at h; exact h.elim
  | exc e2 δ' s' =>
    rw [e] at h
    exact fun cls dd σ' v' re' l es rx => h cls dd σ' v' l re'.sr es rx
  | stk => rw [e] at h; exact h.elim
theorem DefW.ps (d : DefW X k st pos nm i) (cp : Cap X ys k js) {P : Addr} (TB : TabB X.base X.mg c P) (hcode : X.env.code = .ref c) (W : Own X ys) : PS X st (tNdefG P nm pos k.qual i (NF.of k.st k.name k.qual (cloFrom X.env.cells (C8.fnScope k.st).names []))) := by
  obtain ⟨eq, hst, q, n, d0, k0, an, at_, loc⟩ := d
  subst eq
  exact ps_ndefG hst TB hcode q n cp.free d0 k0 an W.nd at_ (.inl loc) (.inr loc)
theorem set_ne {σ : L2.St} {i j : Nat} {a : Option V} (h : j ≠ i) : (σ.set i a)[j]? = σ[j]? := List.getElem?_set_ne (Ne.symm h)
theorem takeS_off {σ : L2.St} {i : Nat} {a : Option V} {js : List Nat} {vs : List V} (ni : i ∉ js) (hv : ∀ (n j : Nat), js[n]? = some j → ∃ x, vs[n]? = some x ∧ σ[j]? = some (some x)) : ∀ (n j : Nat), js[n]? = some j → ∃ x, vs[n]? = some x ∧ (σ.set i a)[j]? = some (some x) := fun n j h => by
  obtain ⟨x, h1, h2⟩ := hv n j h
  have e : j ≠ i := fun z => ni (z ▸ List.mem_of_getElem? h)
  exact ⟨x, h1, (set_ne e).trans h2⟩
/-- def f; return f -/
theorem rr_ret1 (d : DefW X k st pos nm i) (cp : Cap X ys k js) (W : Own X ys) (TB : TabB X.base X.mg c (C.ct x)) (hcode : X.env.code = .ref c) (ni : i ∉ js) (hdb : (k.name == ("__debug__" : Str)) = false := by decide) (hcd : (k.name == ("__classdict__" : Str)) = false := by decide) :
    SRt X C ys [st, .Return (some (.Name k.name p1)) p] (rRet1 τ x nm k js) := psr_weak (psr_cons (d.ps cp TB hcode W) (psr_ret (pe_var d.at_ (.inl d.loc) hdb hcd))) fun R σ H ⟨δ, v, Q, re, eH, hR, h⟩ => by
  subst eH
  unfold rRet1 at h
  split at h
  · rename_i e
    split at h
    · rename_i ds q
      obtain ⟨vs, hl, hv, r⟩ := takeS_at re q
      refine def_ok re.sr e d.nm fun f c' v1 hi l1 s1 es em g1 g2 => ⟨.ref f, by rw [List.getElem?_set_self hi], hR _ _ _ fun s' I => ?_⟩
      obtain ⟨l3, s3⟩ := lend_view s1 (lent_lend I W)
      exact h _ (v1.lend (lentOf X (σ.set i (some (.ref f))) s'.heap ys)) (l1.trans l3) s3 es (clo_rep s1 I W cp hl (takeS_off ni hv) (l1.repl r) g1 g2)
    · exact h.elim
  · exact h.elim
/-- def f; def g; return (f, g) -/
theorem rr_ret2 {n : Nat} {pos2 : Pos} {p3 : Pos} (d : DefW X k st pos nm i) (cp : Cap X ys k js) (d2 : DefW X k2 st2 pos2 nm i2) (cp2 : Cap X ys k2 js2) (W : Own X ys) (TB : TabB X.base X.mg c (C.ct x)) (hcode : X.env.code = .ref c) (ni : i ∉ js) (ni2 : i2 ∉ js) (nj : i ∉ js2) (nj2 : i2 ∉ js2) (nn : i ≠ i2)
    (hs : starEach [.Name k.name p1, .Name k2.name p2] X.env = (false, eval (.Name k.name p1) X.env) :: starEach [.Name k2.name p2] X.env := by rfl) (hs2 : starEach [.Name k2.name p2] X.env = (false, eval (.Name k2.name p2) X.env) :: starEach [] X.env := by rfl)
    (hdb : (k.name == ("__debug__" : Str)) = false := by decide) (hcd : (k.name == ("__classdict__" : Str)) = false := by decide) (hdb2 : (k2.name == ("__debug__" : Str)) = false := by decide) (hcd2 : (k2.name == ("__classdict__" : Str)) = false := by decide) :
    SRt X C ys [st, st2, .Return (some (.Tuple [.Name k.name p1, .Name k2.name p2] n p3)) p] (rRet2 τ x nm k js k2 js2) := psr_weak (psr_cons (d.ps cp TB hcode W) (psr_cons (d2.ps cp2 TB hcode W) (psr_ret (pe_tup (pa_cons (pe_var d.at_ (.inl d.loc) hdb hcd) (pa_cons (pe_var d2.at_ (.inl d2.loc) hdb2 hcd2) pa_nil hs2) hs))))) fun R σ H ⟨δ, v, Q, re, eH, hR, h⟩ => by
  subst eH
  unfold rRet2 at h
  split at h
  · rename_i e
    split at h
    · rename_i ds ds2 q q2
      obtain ⟨vs, hl, hv, r⟩ := takeS_at re q
      obtain ⟨vs2, hl2, hv2, r2⟩ := takeS_at re q2
      refine def_ok re.sr e d.nm fun f c' v1 hi l1 s1 es em g1 g2 => def_ok s1 (by rw [es]; exact e) d2.nm fun f2 c2 v2 hi2 l2 s2 es2 em2 g3 g4 => ?_
      refine ⟨.ref f, by rw [set_ne nn, List.getElem?_set_self hi], .ref f2, by rw [List.getElem?_set_self hi2], by change 2 ≤ sizeLine; rw [sizeLine_eq]; omega, fun a ha => hR _ _ _ fun s' I => ?_⟩
      obtain ⟨l3, s3⟩ := new_ok (o := .tup [.ref f, .ref f2]) s2 ha
      obtain ⟨l4, s4⟩ := lend_view (v := v2.new a (.tup [.ref f, .ref f2])) s3 (lent_lend I W)
      have b1 := clo_rep (v := v2.new a (.tup [.ref f, .ref f2])) s3 I W cp hl (takeS_off ni2 (takeS_off ni hv)) ((l1.trans (l2.trans l3)).repl r) ((l2.trans l3).g _ _ g1) ((l2.trans l3).g _ _ g2)
      have b2 := clo_rep (v := v2.new a (.tup [.ref f, .ref f2])) s3 I W cp2 hl2 (takeS_off nj2 (takeS_off nj hv2)) ((l1.trans (l2.trans l3)).repl r2) (l3.g _ _ g3) (l3.g _ _ g4)
      exact h _ ((v2.new a (.tup [.ref f, .ref f2])).lend (lentOf X ((σ.set i (some (.ref f))).set i2 (some (.ref f2))) s'.heap ys)) (((l1.trans l2).trans l3).trans l4) s4 (es2.trans es) (.tup (.inl (.inl (l4.g _ _ upd_same))) (.cons b1 (.cons b2 .nil)))
    · exact h.elim
  · exact h.elim
end

/-! ### the def -/
/-- a def whose code object has a table -/
structure FunC (K : PySem.W.Frag) (x qual : Str) (st : Stmt) (f : Addr) (fd : FuncData) (c : Addr) : Prop where
  ex : ∃ (oc : Value) (od : Option Addr) (kV doc pm : Value) (an : Option Addr) (ct : Value) (osl : Array (Option Value)),
    fd = PySem.W.fnOf x qual (L2.defArgs st) (L2.defBody st) (L2.defScope st) .none kV doc pm an (.ref c) ct ∧ K.lookup f = some ⟨oc, od, .func fd, osl⟩ ∧ PySem.W.codeIn K (.ref c) qual = true
  kp : PySem.W.keepIn K (.ref f) = true
theorem funC_mk {K : PySem.W.Frag} {x qual : Str} {st : Stmt} {f c : Addr} {oc : Value} {od an : Option Addr} {osl : Array (Option Value)} {kV doc pm ct : Value} (l : K.lookup f = some ⟨oc, od, .func (PySem.W.fnOf x qual (L2.defArgs st) (L2.defBody st) (L2.defScope st) .none kV doc pm an (.ref c) ct), osl⟩)
    (h : PySem.W.codeIn K (.ref c) qual = true) (k : PySem.W.keepIn K (.ref f) = true) : FunC K x qual st f (PySem.W.fnOf x qual (L2.defArgs st) (L2.defBody st) (L2.defScope st) .none kV doc pm an (.ref c) ct) c := ⟨⟨oc, od, kV, doc, pm, an, ct, osl, rfl, l, h⟩, k⟩
theorem FunC.fn {K : PySem.W.Frag} {x qual : Str} {st : Stmt} {f : Addr} {fd : FuncData} {c : Addr} (F : FunC K x qual st f fd c) : L2.Fun K x qual st f fd := by
  obtain ⟨oc, od, kV, doc, pm, an, ct, osl, h1, h2, h3⟩ := F.ex
  exact ⟨⟨oc, od, kV, doc, pm, an, .ref c, ct, osl, h1, h2, h3⟩, F.kp⟩
/-- names and slots, looked at -/
def ownB (N : List Str) (sc : Scope) (ys : List (Str × Nat)) : Bool := ys.all fun p => decide (N[p.2]? = some p.1) && decide (sc.names.lookup p.1 = some .cell)
theorem own_by {X : Cx} {ys : List (Str × Nat)} (h : ownB X.N X.env.scope ys = true) (nd : X.N.Nodup) (hf : ∀ x, X.fn x = true) : Own X ys := ⟨fun p hp => by
  have z := List.all_eq_true.mp h p hp
  simp only [Bool.and_eq_true, decide_eq_true_eq] at z
  exact ⟨z.1, z.2, hf _⟩, nd⟩
def capB (sc nsc : Scope) (fr : List Str) (js : List Nat) (ys : List (Str × Nat)) : Bool :=
  (nsc.names.all fun y => !decide (y.2 = .free) || (decide (sc.names.lookup y.1 = some .cell) && decide (y.1 ∈ fr))) && (fr.all fun y => decide ((y, NameKind.free) ∈ nsc.names)) && decide (fr.length = js.length) && (fr.zip js).all fun p => decide (p ∈ ys)
theorem cap_by {X : Cx} {ys : List (Str × Nat)} {k : Clo} {js : List Nat} (h : capB X.env.scope (C8.fnScope k.st) k.fr js ys = true) : Cap X ys k js := by
  unfold capB at h
  simp only [Bool.and_eq_true, Bool.or_eq_true, Bool.not_eq_true', decide_eq_true_eq, decide_eq_false_iff_not, List.all_eq_true] at h
  obtain ⟨⟨⟨h1, h2⟩, h3⟩, h4⟩ := h
  exact ⟨fun y hy e => .inl ((h1 y hy).elim (fun z => absurd e z) And.left), fun y hy e => (h1 y hy).elim (fun z => absurd e z) And.right, h2, h3, h4⟩
def runC (N : Nat) (body : RL) (ds : List D) (s : Sto) : R D := body (ds.map some ++ List.replicate (N - ds.length) none) s
section
variable {P : Program} {w : World} {K : PySem.W.Frag} {mg : Str → Option Value} {base : Heap} {ct : String → Addr}
theorem fn_okC {x qual : Str} {st : Stmt} {f : Addr} {fd : FuncData} {c : Addr} {N ps : List Str} {k : Nat} {body : RL} {ys : List (Str × Nat)} (F : FunC K x qual st f fd c) (sc : FnScope N ps (L2.defScope st)) (hn : ps.length ≤ N.length)
    (hW : ownB N (L2.defScope st) ys = true)
    (hb : ∀ (A : Around) (outer : List Env) (s : Shared) (H : Hp) (v : Vw) (E : XK), Room k (A.deeper (PyProof.Rows.envOfC qual (L2.defScope st) s.heap.objs.size f (.ref c))) → Own (cxOf (L2.CX P w) P w K mg base N qual (L2.defScope st) f (.ref c) A outer s H E) ys →
      SRt (cxOf (L2.CX P w) P w K mg base N qual (L2.defScope st) f (.ref c) A outer s H E) ⟨v, ct, fun cls d _ H => E cls d H⟩ ys (L2.defBody st) body) :
    FnOk P w K mg base (L2.CX P w) (k + 1) f fd ps (spG K ct ps.length (runC N.length body)) := by
  obtain ⟨oc, od, kV, doc, pm, an, ctv, osl, rfl, lk, hcd⟩ := F.ex
  refine fn_ofC lk hcd sc (fun vs H Q E ⟨v, ds, e, sr, l, r, _⟩ => by rw [← l, r.length]) (fun A outer s H vs Q E hr ⟨v, ds, e, sr, l, r, h⟩ => ?_)
  have W : Own (cxOf (L2.CX P w) P w K mg base N qual (L2.defScope st) f (.ref c) A outer s H E) ys := own_by hW sc.nd fun _ => rfl
  refine ⟨_, hb A outer s H v E hr W, ?_⟩
  subst e
  have rs : RE K ⟨v, ct, fun cls d _ H => E cls d H⟩ (L2.start N vs) (ds.map some ++ List.replicate (N.length - ds.length) none) v := re_start .refl sr r (by omega)
  refine ⟨_, v, Q, rs, rfl, fun y σ' H' hx s' I => ?_, ?_⟩
  · obtain ⟨h1, h2⟩ := lent_end I W rfl
    exact ⟨_, h1, h2, hx s' I⟩
  · unfold runC at h
    cases e : body (ds.map some ++ List.replicate (N.length - ds.length) none) v.st with
    | ok d s => rw [e] at h; exact fun x v' l sr' es r => h x v' l sr' es r
    | exc e2 s => rw [e] at h; exact fun cls dd σ' v' l sr' es rx => h cls dd v' l sr' es rx
    | stk => rw [e] at h; exact h.elim
end
end Gs

/-! GCq: the law's end, with the tables of the code objects of defs within defs. -/
namespace Gs
open PySem PySem.Spec PyProof.Rows L2 NdefX LamX
theorem tabIn_of {K : PySem.W.Frag} {x : Str} {f c P : Addr} {oc oc2 : Value} {od od2 : Option Addr} {fd : FuncData} {sl sl2 : Array (Option Value)} {vs : Array Value} (h1 : PySem.W.nsIn K mainGlobals x = some (some (.ref f))) (h2 : K.lookup f = some ⟨oc, od, .func fd, sl⟩) (h3 : fd.code = .ref c)
    (h4 : K.lookup c = some ⟨oc2, od2, .fields vs, sl2⟩) (h5 : vs[11]? = some (.ref P)) : PySem.W.tabIn K x = some (c, P) := by
  unfold PySem.W.tabIn
  simp only [h1, h2, h3, h4, h5]
/-- the tables: how each is called, what it tells -/
abbrev Tabs := List (String × (Nat → Nat → Str))
def tabSt (T : Tabs) : Sto := T.map fun t => .tab t.1 t.2
def spT (K : PySem.W.Frag) (ct : String → Addr) (T : Tabs) (F : List D → Sto → R D) : Sp := fun vs H Q E => ∃ (a : Addr) (ns : List Int) (s' : Sto), vs = [.ref a] ∧ (T.map fun t => ct t.1).Nodup ∧ (∀ t ∈ T, H (ct t.1) = some (.tbl #[])) ∧ SqL K H a (ns.map V.int) ∧ F [.lst (ns.map D.int)] (tabSt T) = .ok (.bl true) s' ∧ ∀ H', Q (.bl true) H'
theorem tab_view {K : PySem.W.Frag} {ct : String → Addr} {T : Tabs} {H : Hp} (nd : (T.map fun t => ct t.1).Nodup) (h : ∀ t ∈ T, H (ct t.1) = some (.tbl #[])) : SR K ct ⟨fun b => if b ∈ T.map (fun t => ct t.1) then none else H b, H, fun i => (T.map fun t => ct t.1)[i]?, tabSt T⟩ := by
  have at_ : ∀ (i : Nat) (o : O), (tabSt T)[i]? = some o → ∃ t, T[i]? = some t ∧ o = .tab t.1 t.2 := fun i o e => by
    unfold tabSt at e
    rw [List.getElem?_map] at e
    cases q : T[i]? with
    | none => rw [q] at e; exact nomatch e
    | some t => rw [q] at e; exact ⟨t, rfl, (Option.some.inj e).symm⟩
  refine ⟨fun b o e => ?_, fun i hi => ?_, fun i o e l => ?_, fun i j o u a e1 e2 _ _ m1 m2 => ?_, fun i kvs e => ?_⟩
  · have e' : (if b ∈ T.map (fun t => ct t.1) then none else H b) = some o := e
    split at e'
    · exact nomatch e'
    · exact e'
  · have hi' : T.length ≤ i := by simpa [tabSt] using hi
    show (T.map fun t => ct t.1)[i]? = none
    exact List.getElem?_eq_none (by simpa using hi')
  · obtain ⟨t, ht, rfl⟩ := at_ i o e
    refine ⟨ct t.1, ?_, ?_, rfl, #[], h t (List.mem_of_getElem? ht), ?_, fun pos cv hc => ?_⟩
    · show (T.map fun t => ct t.1)[i]? = some (ct t.1)
      rw [List.getElem?_map, ht]
      rfl
    · show (if ct t.1 ∈ T.map (fun t => ct t.1) then none else H (ct t.1)) = none
      rw [if_pos (List.mem_map.mpr ⟨t, List.mem_of_getElem? ht, rfl⟩)]
    · exact True.intro
    · have z : codeAmong pos [] = some cv := hc
      simp [codeAmong] at z
  · have h1 : (T.map fun t => ct t.1)[i]? = some a := m1
    have h2 : (T.map fun t => ct t.1)[j]? = some a := m2
    have hi := (List.getElem?_eq_some_iff.mp h1).1
    have hj := (List.getElem?_eq_some_iff.mp h2).1
    exact (List.getElem_inj (h₀ := hi) (h₁ := hj) nd).mp (by rw [(List.getElem?_eq_some_iff.mp h1).2, (List.getElem?_eq_some_iff.mp h2).2])
  · obtain ⟨t, ht, z⟩ := at_ i _ e
    exact nomatch z
theorem fn_lawC {P : Program} {w : World} {K : PySem.W.Frag} {mg : Str → Option Value} {base : Heap} {CX : CXT} {k : Nat} {f : Addr} {fd : FuncData} {ps : List Str} {ct : String → Addr} {F : List D → Sto → R D} {T : Tabs} (h : FnOk P w K mg base CX k f fd ps (spG K ct 1 F)) :
    FnOk P w K mg base CX k f fd ps (spT K ct T F) := by
  refine h.imp fun vs H Q E ⟨a, ns, s', e, nd, hT, hS, hF, q⟩ => ?_
  subst e
  refine ⟨⟨fun b => if b ∈ T.map (fun t => ct t.1) then none else H b, H, fun i => (T.map fun t => ct t.1)[i]?, tabSt T⟩, [.lst (ns.map D.int)], rfl, tab_view nd hT, rfl, .cons (.lst (hS.imp (fun r => ?_) id) (RepL.ints ns)) .nil, ?_⟩
  · have na : a ∉ T.map (fun t => ct t.1) := fun z => by
      obtain ⟨t, ht, e⟩ := List.mem_map.mp z
      have y := hT t ht
      rw [e] at y
      rcases r with r | ⟨o, r⟩
      · rw [y] at r; exact nomatch r
      · rw [y] at r; exact nomatch r
    rcases r with r | ⟨o, r⟩
    · exact .inl ((if_neg na).trans r)
    · exact .inr ⟨o, (if_neg na).trans r⟩
  · show match F [.lst (ns.map D.int)] (tabSt T) with
      | .ok d s => _
      | .exc e s => _
      | .stk => _
    rw [hF]
    intro x v' l sr es r
    cases r
    exact q v'.H
theorem walk_tabs {l : PySem.W.OpenLaw} {n k : Nat} {q : Program} {loose : List Str} {XP : (Str → Option Value) → Heap → Prop} {YP : World → Heap → Prop} {d : DefRec} {K : Params → PySem.W.Frag} {CX : World → CXT} {x : Str} {S : List D → Sto → R D} {T : Tabs} {names : List Str}
    (hn : l.most = some n) (hn2 : n ≤ sizeLine) (hdf : d.params.defaults = []) (hr : Room k callerA)
    (hrec : (names.all fun y => ((recsOf q).find? fun e => e.name == y).isSome) = true)
    (hY : ∀ (w : World) (h : Heap), YP w h → (K w.params).In h)
    (F : ∀ (w : World) (mg : Str → Option Value) (fa : Addr) (h : Heap), (K w.params).In h → h.Ns mainGlobals mg → mg d.name = some (.ref fa) →
      ∃ (fd : FuncData) (ct : String → Addr) (cs : List (Str × Addr × Addr)), (∀ (s : Shared) (u : Value), BindsTo s fd ⟨[u], []⟩ [(x, u)]) ∧ (∀ t ∈ cs, t.1 ∈ names) ∧ (∀ t ∈ cs, PySem.W.tabIn (K w.params) t.1 = some t.2) ∧ (∀ t ∈ cs, (K w.params).lookup t.2.2 = none) ∧
        (T.map fun t => ct t.1) = (cs.map fun t => t.2.2) ∧ (cs.map fun t => t.2.2).Nodup ∧ ∀ base : Heap, (K w.params).In base → base.Ns mainGlobals mg → (∀ t ∈ cs, TabB base mg t.2.1 t.2.2) → FnOk l.prog w (K w.params) mg base (CX w) k fa fd [x] (spG (K w.params) ct 1 S))
    (hS : ∀ ns : List Int, ns.length ≤ n → (∀ z ∈ ns, Builtin.Int.intBits z ≤ 1048576) → ∃ s', S [.lst (ns.map D.int)] (tabSt T) = .ok (.bl true) s')
    (hCX : ∀ (w : World) (H : Hp) (s : Shared) (e : Value) (s' : Shared), CX w [] H s (fun _ _ _ => False) e s' → False) :
    PySem.W.WalkO q loose XP YP l.row.toRowW d [] (fun f vs => PySem.call f vs) := by
  refine Att.attach_callB hn hdf fun w s₀ s₁ mg mb fa o pm cd doc a vs ns G Y ho hd hcd hmg hobj hints hlen hbits hg => ?_
  have KX := hY w _ Y
  obtain ⟨fd, ct, cs, hb, hN, hI, hL, hct, nd, hF⟩ := F w mg fa _ KX G.T.g hmg
  have key : ∀ t ∈ cs, PySem.W.CodeHd s₁.heap t.2.1 t.2.2 ∧ s₁.heap.get? t.2.2 = some { cls := .none, data := .fields #[] } := fun t ht => by
    obtain ⟨dd, hdd⟩ := Option.isSome_iff_exists.mp (List.all_eq_true.mp hrec _ (hN t ht))
    exact PySem.W.tab_of (c := t.2.1) (P := t.2.2) G.T KX hdd (hI t ht)
  have mem : ∀ p ∈ cs.map (·.2), ∃ t ∈ cs, t.2 = p := fun p hp => List.mem_map.mp hp
  refine law_callTs (cs := cs.map (·.2)) (sp := spT (K w.params) ct T S) KX G.T.g G.T.b G.T.builtins G.T.nolimit hg (fun p hp => ?_) (fun p hp => ?_) (fun p hp => ?_) G.T.bmain hobj hints (Nat.le_trans hlen hn2) hr (fun base b1 b2 b3 => fn_lawC (hF base b1 b2 fun t ht => b3 _ (List.mem_map.mpr ⟨t, ht, rfl⟩))) hb (fun H hH hSq => ?_) (fun H e s' => hCX w H s₁ e s')
  · obtain ⟨t, ht, rfl⟩ := mem p hp; exact (key t ht).2
  · obtain ⟨t, ht, rfl⟩ := mem p hp; exact hL t ht
  · obtain ⟨t, ht, rfl⟩ := mem p hp; exact (key t ht).1
  · obtain ⟨s', hs⟩ := hS ns hlen hbits
    refine ⟨a, ns, s', rfl, by rw [hct]; exact nd, fun t ht => ?_, hSq, hs, fun _ => rfl⟩
    have hm : ct t.1 ∈ cs.map fun t => t.2.2 := by rw [← hct]; exact List.mem_map.mpr ⟨t, ht, rfl⟩
    obtain ⟨u, hu, e⟩ := List.mem_map.mp hm
    rw [← e]
    exact hH u.2 (List.mem_map.mpr ⟨u, hu, rfl⟩)
end Gs

/-! GDf: defs with defaults; try .. except C as e: return (isinstance(e, C1), ..). -/
namespace Gs
open PySem L2
section
variable {P : Program} {w : World} {K : PySem.W.Frag} {mg : Str → Option Value} {base : Heap} {ct : String → Addr}
theorem fn_okD {x qual : Str} {st : Stmt} {f : Addr} {fd : FuncData} {N ps : List Str} {k : Nat} {body : S} {dvs : List V} (F : FunD K x qual (defArgs st) (defBody st) (defScope st) dvs [] f fd) (sc : FnScope N ps (defScope st)) (hn : ps.length ≤ N.length)
    (hb : ∀ (cdv : Value) (A : Around) (outer : List Env) (s : Shared) (H : Hp) (v : Vw) (E : XK), Room k (A.deeper (PyProof.Rows.envOfC qual (defScope st) s.heap.objs.size f cdv)) →
      SSs (cxOf (L2.CX P w) P w K mg base N qual (defScope st) f cdv A outer s H E) ⟨v, ct, fun cls d _ H => E cls d H⟩ (defBody st) body) :
    FnOk P w K mg base (L2.CX P w) (k + 1) f fd ps (spG K ct ps.length (runG N.length body)) := by
  refine F.ok sc (fun vs H Q E ⟨v, ds, e, sr, l, r, _⟩ => by rw [← l, r.length]) (fun cdv A outer s H vs Q E hr ⟨v, ds, e, sr, l, r, h⟩ => ⟨_, hb cdv A outer s H v E hr, ?_⟩)
  subst e
  have rs : RE K ⟨v, ct, fun cls d _ H => E cls d H⟩ (L2.start N vs) (ds.map some ++ List.replicate (N.length - ds.length) none) v := re_start .refl sr r (by omega)
  refine ⟨_, v, rs, rfl, ?_⟩
  unfold runG at h
  cases e : body (ds.map some ++ List.replicate (N.length - ds.length) none) v.st with
  | nx δ s => rw [e] at h; exact fun σ' v' re l es => h .non v' l re.sr es .non
  | rt d s => rw [e] at h; exact fun x v' l sr' es r => h x v' l sr' es r
  | exc e2 δ s => rw [e] at h; exact fun cls dd σ' v' re l es rx => h cls dd v' l re.sr es rx
  | bk δ s => rw [e] at h; exact h.elim
  | ct δ s => rw [e] at h; exact h.elim
  | stk => rw [e] at h; exact h.elim
theorem fund_mk {x qual : Str} {st : Stmt} {f T : Addr} {oc tc : Value} {od an to : Option Addr} {osl tsl : Array (Option Value)} {kV doc pm cdv c2 : Value} {n : Nat} {its : List Value} {dvs : List V}
    (l : K.lookup f = some ⟨oc, od, .func (PySem.W.fnOf x qual (defArgs st) (defBody st) (defScope st) (.ref T) kV doc pm an cdv c2), osl⟩)
    (c : PySem.W.codeIn K cdv qual = true) (k : PySem.W.keepIn K (.ref f) = true) (lT : K.lookup T = some ⟨tc, to, .seq its.toArray n, tsl⟩) (hn : dvs ≠ []) (r : Vals dvs its) :
    FunD K x qual (defArgs st) (defBody st) (defScope st) dvs [] f (PySem.W.fnOf x qual (defArgs st) (defBody st) (defScope st) (.ref T) kV doc pm an cdv c2) :=
  ⟨⟨oc, od, .ref T, kV, doc, pm, an, cdv, c2, osl, rfl, l, c, .inr ⟨hn, T, _, its, n, rfl, lT, rfl, r⟩, .inl rfl⟩, k⟩
end
/-! a call whose last arguments are the defaults -/
def eCallD (F : List D → Sto → R D) (a : As) (dd : List D) : E := fun δ s => (a δ s).bind fun ds s1 => F (ds ++ dd) s1
section
variable {X : Cx} {C : Cc} {pos p : Pos} {x : Str} {e : Expr} {es : List Expr} {fa : As} {k n j : Nat} {f : Addr} {fd : FuncData} {ps : List Str} {F : List D → Sto → R D} {dd : List D} {dvs : List V}
theorem se_callD (hF : FnOk X.prog X.w X.K X.mg X.base (L2.CX X.prog X.w) k f fd ps (spG X.K C.ct n F)) (hr : Room k X.A) (tk : Takes X C.W) (hg : Gl X x) (hm : X.mg x = some (.ref f)) (hk : PySem.W.keepIn X.K (.ref f) = true)
    (hb : ∃ ds, Vals dvs ds ∧ Binds X.K fd ps ds) (rd : ∀ G m, RepL X.K C.ct G m dd dvs)
    (ha : SA X C (e :: es) fa) (hl : LenA fa j) (hj : j + dd.length = n) (hdb : (x == ("__debug__" : Str)) = false := by decide) (he : starEach (e :: es) X.env = (false, eval e X.env) :: starEach es X.env := by rfl) (hpl : (backTo pos (starEach es X.env)).any (·.1) = false := by rfl) :
    SE X C (.Call (.Name x p) (e :: es) [] pos) (eCallD F fa dd) := by
  obtain ⟨ds, hv, hb⟩ := hb
  exact pe_weak (pe_callSD hF hr hg hm hk hb hv (fun σ => passAt tk σ) ha hdb he hpl) fun σ H Q ⟨δ, v, re, eH, h⟩ => ⟨δ, v, re, eH, on_mono (on_eq (on_bind h)) fun ds vs v1 l1 s1 r1 h1 => by
    obtain ⟨h1, s, q⟩ := h1
    have hh : (ds ++ dd).length = n := by rw [List.length_append, hl _ _ _ _ q, hj]
    exact on_sp s1 hh (r1.append (rd _ _)) h1⟩
end
@[simp] theorem v_eCallD (F : List D → Sto → R D) (a : As) (dd : List D) (δ : Sl) (s : Sto) : eCallD F a dd δ s = (a δ s).bind fun ds s1 => F (ds ++ dd) s1 := id rfl
/-! isinstance of what is caught, told as a tuple -/
section
variable {X : Cx}
theorem pe_isE {a D : Addr} {oe : Obj} {b : Bool} {i : Nat} {x cn : Str} {p1 p2 pf pos : Pos} {cv : Value} {cV : V} {pn : List (Addr × Obj)} (c : ExcC X.K D) (hz : Zc (.ref D) none oe) (hf : ∃ vs, oe.data = .fields vs)
    (hgi : Gl X "isinstance") (hmi : X.mg "isinstance" = none) (hc : PE (X.suite a ((a, oe) :: pn)) (.Name cn p2) (tC cV)) (hcv : ClsV cV cv) (hk : PySem.W.kitOne X.K (.ref D) cv = some b)
    (hN : X.N[i]? = some x := by rfl) (hv : Vis X.env.scope x := by first | exact Or.inl rfl | exact Or.inr (Or.inl rfl) | exact Or.inr (Or.inr rfl)) (hd : (x == ("__debug__" : Str)) = false := by decide) (hcd : (x == ("__classdict__" : Str)) = false := by decide)
    (hvi : bootBuiltins "isinstance" = some (.builtin "isinstance") := by decide +kernel)
    (hs : starEach [.Name x p1, .Name cn p2] X.env = (false, eval (.Name x p1) X.env) :: starEach [.Name cn p2] X.env := by rfl) (hpl : (backTo pos (starEach [.Name cn p2] X.env)).any (·.1) = false := by rfl) (hs2 : starEach [.Name cn p2] X.env = (false, eval (.Name cn p2) X.env) :: starEach [] X.env := by rfl) :
    PE (X.suite a ((a, oe) :: pn)) (.Call (.Name "isinstance" pf) [.Name x p1, .Name cn p2] [] pos) (fun σ H Q => σ[i]? = some (some (.ref a)) ∧ Q (.bl b) H) :=
  pe_weak (pe_callB (X := X.suite a ((a, oe) :: pn)) (call_isE c hz hf) hgi hmi hvi (pa_cons (pe_var (X := X.suite a ((a, oe) :: pn)) hN hv hd hcd) (pa_cons hc pa_nil hs2) hs) (by decide) (by decide) hs hpl) fun σ H Q ⟨e0, q⟩ =>
    ⟨_, e0, cV, cv, b, rfl, fun u r => hcv.eq r, hk, q⟩
/-- the answers, one for each table -/
def alT : List (String → Option Bool) → String → Option (List Bool)
  | [], _ => some []
  | t :: ts, s => match t s, alT ts s with
    | some b, some bs => some (b :: bs)
    | _, _ => none
theorem alT_len : ∀ {ts : List (String → Option Bool)} {s : String} {bs : List Bool}, alT ts s = some bs → ts.length ≤ 100 → bs.length ≤ 100
  | ts, s, bs, h, hl => by
    suffices hh : ∀ (ts : List (String → Option Bool)) (bs : List Bool), alT ts s = some bs → bs.length = ts.length by rw [hh ts bs h]; exact hl
    intro ts
    induction ts with
    | nil => intro bs h; simp only [alT, Option.some.injEq] at h; subst h; rfl
    | cons t ts ih =>
      intro bs h
      unfold alT at h
      split at h
      · rename_i b bs2 e1 e2; cases h; rw [List.length_cons, List.length_cons, ih _ e2]
      · exact nomatch h
theorem pa_isN {Y : Cx} {i : Nat} {a : Addr} : PA Y [] (fun σ H Q => σ[i]? = some (some (.ref a)) ∧ Q (([] : List Bool).map V.bl) H) := pa_weak pa_nil fun σ H Q ⟨_, q⟩ => q
theorem pa_isC {Y : Cx} {i : Nat} {a : Addr} {b : Bool} {bs : List Bool} {e : Expr} {es : List Expr} (h : PE Y e (fun σ H Q => σ[i]? = some (some (.ref a)) ∧ Q (.bl b) H)) (ht : PA Y es (fun σ H Q => σ[i]? = some (some (.ref a)) ∧ Q (bs.map V.bl) H))
    (hs : starEach (e :: es) Y.env = (false, eval e Y.env) :: starEach es Y.env := by rfl) : PA Y (e :: es) (fun σ H Q => σ[i]? = some (some (.ref a)) ∧ Q ((b :: bs).map V.bl) H) :=
  pa_weak (pa_cons h ht hs) fun σ H Q ⟨e0, q⟩ => ⟨e0, e0, q⟩
theorem pa_isN' {Y : Cx} {i : Nat} {a : Addr} {cn : String} : ∀ bs, alT [] cn = some bs → PA Y [] (fun σ H Q => σ[i]? = some (some (.ref a)) ∧ Q (bs.map V.bl) H) := fun bs h => by
  simp only [alT, Option.some.injEq] at h
  subst h
  exact pa_isN
theorem pa_isC' {Y : Cx} {i : Nat} {a : Addr} {e : Expr} {es : List Expr} {cn : String} {t : String → Option Bool} {ts : List (String → Option Bool)} (h : ∀ b, t cn = some b → PE Y e (fun σ H Q => σ[i]? = some (some (.ref a)) ∧ Q (.bl b) H)) (ht : ∀ bs, alT ts cn = some bs → PA Y es (fun σ H Q => σ[i]? = some (some (.ref a)) ∧ Q (bs.map V.bl) H))
    (bs : List Bool) (hh : alT (t :: ts) cn = some bs) (hs : starEach (e :: es) Y.env = (false, eval e Y.env) :: starEach es Y.env := by rfl) : PA Y (e :: es) (fun σ H Q => σ[i]? = some (some (.ref a)) ∧ Q (bs.map V.bl) H) := by
  unfold alT at hh
  split at hh
  · rename_i b bs2 e1 e2
    cases hh
    exact pa_isC (h b e1) (ht bs2 e2) hs
  · exact nomatch hh
theorem pss_isT {Y : Cx} {i : Nat} {a : Addr} {bs : List Bool} {es : List Expr} {k : Nat} {pos p2 : Pos} (h : PA Y es (fun σ H Q => σ[i]? = some (some (.ref a)) ∧ Q (bs.map V.bl) H)) (hl : bs.length ≤ 100) :
    PSs Y [.Return (some (.Tuple es k pos)) p2] (fun Dn σ H => σ[i]? = some (some (.ref a)) ∧ ∀ p, H p = none → Dn.rt (.ref p) (upd H p (.tup (bs.map V.bl)))) :=
  pss_one (ps_weak (ps_ret (pe_tup h)) fun Dn σ H ⟨e0, q⟩ => ⟨e0, by rw [List.length_map]; exact Nat.le_trans hl (by decide), fun p hp => q p hp⟩)
end
def sTryR (t : String → Option Bool) (al : String → Option (List Bool)) (fb : S) : S := fun δ s => match fb δ s with
  | .exc e δ' s' => if e.fs.isEmpty = true then (match t e.cls with
    | some true => (match al e.cls with
      | some bs => .rt (.tup (bs.map D.bl)) s'
      | none => .stk)
    | some false => .exc e δ' s'
    | none => .stk) else .stk
  | r => r
theorem repl_bl {K : PySem.W.Frag} {ct : String → Addr} {G : Hp} {m : Nat → Option Addr} : ∀ bs : List Bool, RepL K ct G m (bs.map D.bl) (bs.map V.bl)
  | [] => .nil
  | b :: bs => .cons (.bl b) (repl_bl bs)
section
variable {X : Cx} {C : Cc}
theorem ss_try_ret {x n : Str} {c : Addr} {t : String → Option Bool} {al : String → Option (List Bool)} {i : Nat} {body suite : List Stmt} {b₀ : Stmt} {np pos' pos : Pos} {fb : S} (hs : X.stack = X.env :: X.outer) (hf : X.env.frame = some X.env.locals) (hN : X.N.Nodup) (hi : X.N[i]? = some n) (hln : X.env.kindOf n = some .local)
    (hc : Names X x (.ref c)) (tk : Takes X C.W) (ht : XT X.K C.ct c t)
    (hb : ∀ (W : WX) (pn : List (Addr × Obj)) (xe : Value → Shared → Prop), Takes (X.tr pn xe) W → PassesOwn (model X.prog X.w) X.A X.env xe → SSs (X.tr pn xe) { C with W := W } body fb)
    (hsu : ∀ (a : Addr) (oe : Obj) (pn : List (Addr × Obj)) (cn : String) (bs : List Bool), al cn = some bs → Zc (.ref (C.ct cn)) none oe → (∃ vs, oe.data = .fields vs) →
      PSs (X.suite a ((a, oe) :: pn)) (b₀ :: suite) (fun Dn σ H => σ[i]? = some (some (.ref a)) ∧ ∀ p, H p = none → Dn.rt (.ref p) (upd H p (.tup (bs.map V.bl))))) :
    SS X C (.Try body [.ExceptHandler (some (.Name x np)) (some n) (b₀ :: suite) pos'] [] [] pos) (sTryR t al fb) := by
  refine ⟨fun pins s σ H Dn I h => ?_⟩
  have hiN : i < X.N.length := (List.getElem?_eq_some_iff.mp hi).1
  refine (ps_try_as (tb := fun W => liftS X.K { C with W := W } fb) (ts := fun a cls d => fun Dn σ H => ∃ (cn : String) (bs : List Bool), cls = .ref (C.ct cn) ∧ d = none ∧ al cn = some bs ∧ (∃ σ0 : L2.St, σ = List.set σ0 i (some (.ref a))) ∧ ∀ p, H p = none → Dn.rt (.ref p) (upd H p (.tup (bs.map V.bl))))
    hs hf hN hi hln hc tk hb fun a oe cls d pn hz hfl => ⟨fun pins s σ H Dn I hh => by
      obtain ⟨cn, bs, rfl, rfl, hal, ⟨σ0, rfl⟩, h2⟩ := hh
      have hl : (List.set σ0 i (some (V.ref a))).length = X.N.length := I.len
      rw [List.length_set] at hl
      exact (hsu a oe pn cn bs hal hz hfl).run pins s _ H Dn I ⟨List.getElem?_set_self (by omega), h2⟩⟩).run pins s σ H Dn I ?_
  obtain ⟨δ, v, re, eH, h⟩ := h
  refine ⟨δ, v, re.wish2, eH, ?_⟩
  unfold sTryR at h
  cases e : fb δ v.st with
  | nx δ' s' => rw [e] at h; exact fun σ' v' re l es => h σ' v' re.wish2 l es
  | bk δ' s' => rw [e] at h; exact fun σ' v' re l es => h σ' v' re.wish2 l es
  | ct δ' s' => rw [e] at h; exact fun σ' v' re l es => h σ' v' re.wish2 l es
  | rt d s' => rw [e] at h; exact h
  | stk => rw [e] at h; exact h.elim
  | exc ex δ' s' =>
    rw [e] at h
    simp only at h
    intro cls dd σ' v' re' l' es rx
    split at h
    · rename_i hfs
      have hfs' : ex.fs = [] := List.isEmpty_iff.mp hfs
      have hdd : dd = none := rx.2.elim (fun z => z.2) fun z => absurd hfs' z.1
      cases q : t ex.cls with
      | none => rw [q] at h; exact h.elim
      | some bb =>
        rw [q] at h
        refine ⟨bb, by rw [rx.1]; exact ht _ _ q, fun hb => ?_, fun hb => ?_⟩
        · subst hb
          intro a ha
          simp only at h
          cases qa : al ex.cls with
          | none => rw [qa] at h; exact h.elim
          | some bs =>
            rw [qa] at h
            refine ⟨ex.cls, bs, rx.1, hdd, qa, ⟨_, rfl⟩, fun p hp => ?_⟩
            obtain ⟨l2, s2⟩ := new_ok (o := .tup (bs.map V.bl)) re'.sr hp
            exact h (.ref p) _ (re'.le.trans l2) s2 es (.tup (SqT.of upd_same) (l2.repl (repl_bl bs)))
        · subst hb
          exact h cls dd σ' v' re'.wish2 l' es rx
    · exact h.elim
end
@[simp] theorem v_sTryR (t : String → Option Bool) (al : String → Option (List Bool)) (fb : S) (δ : Sl) (s : Sto) : sTryR t al fb δ s = (match fb δ s with
  | .exc e δ' s' => if e.fs.isEmpty = true then (match t e.cls with
    | some true => (match al e.cls with
      | some bs => .rt (.tup (bs.map D.bl)) s'
      | none => .stk)
    | some false => .exc e δ' s'
    | none => .stk) else .stk
  | r => r) := id rfl
end Gs

/-! GCr: a function made in a def, handed on while the def runs. -/
namespace Gs
open PySem PySem.Spec PyProof.Rows L2 NdefX LamX
/-- cells of the running frame that are lent -/
structure LendOk (X : Cx) (σ : L2.St) (ys : List (Str × Nat)) (H : Hp) (cs : Lt) : Prop where
  ok : X.Ok
  free : ∀ b p, cs b = some p → H b = none
  get : ∀ p ∈ ys, ∀ v, σ[p.2]? = some (some v) → ∃ c o, X.env.cells.lookup p.1 = some c ∧ cs c = some (o, v)
  of : ∀ b o v, cs b = some (o, v) → ∃ p ∈ ys, X.env.cells.lookup p.1 = some b
theorem lendOk_of {X : Cx} {pins : List (Addr × Obj)} {σ : L2.St} {H : Hp} {s : Shared} {ys : List (Str × Nat)} (I : Inv X pins σ H s) (W : Own X ys) : LendOk X σ ys H (lentOf X σ s.heap ys) :=
  ⟨I.ok, (lent_lend I W).free, fun p hp v e => lent_get I W hp e, fun b o v e => let ⟨p, h1, h2, _⟩ := lent_of e; ⟨p, h1, h2⟩⟩
def tCallL (X : Cx) (ys : List (Str × Nat)) (sp : Sp) (dvs : List V) (E : L2.St → XK) (t : TA) : TE := fun σ H Q => t σ H fun vs H1 => ∀ cs, LendOk X σ ys H1 cs → sp (vs ++ dvs) (lend H1 cs) (fun v H2 => Q v (unl H2 cs)) fun c d H2 => E σ c d (unl H2 cs)
section
variable {X : Cx} {pins : List (Addr × Obj)} {σ : L2.St} {H : Hp} {s : Shared} {ys : List (Str × Nat)}
theorem run_fnLD {k : Nat} {f : Addr} {fd : FuncData} {ps : List Str} {sp : Sp} {E : L2.St → XK} {Q : VK} {us ds : List Value} {vs dvs : List V} (F : FnOk X.prog X.w X.K X.mg X.base (L2.CX X.prog X.w) k f fd ps sp) (hr : Room k X.A) (hb : Binds X.K fd ps ds) (hd : Vals dvs ds) (hx : PassesAt (L2.CX X.prog X.w) X σ (E σ))
    (I : Inv X pins σ H s) (W : Own X ys) (r : Vals vs us) (h : sp (vs ++ dvs) (lend H (lentOf X σ s.heap ys)) (fun v H1 => Q v (unl H1 (lentOf X σ s.heap ys))) (fun c d H1 => E σ c d (unl H1 (lentOf X σ s.heap ys)))) :
    wpAny (model X.prog X.w) X.A (call (.ref f) us) (EP X pins σ Q) X.xe s := by
  have r2 : Vals (vs ++ dvs) (us ++ ds) := r.append hd
  have hl : (us ++ ds).length = ps.length := by rw [← r2.length]; exact F.len _ _ _ _ h
  refine wpAny_call (codeAny_mono (F.run X.A X.stack s _ ⟨us, []⟩ (us ++ ds) (vs ++ dvs) _ _ hr (lent_env0 I W) (hb s us I.kIn hl) r2 h) fun r s' hq => ?_)
  have hq := cr_back (Q := Q) (E := E σ) (lent_lend I W) (fun _ _ z => z) (fun _ _ _ z => z) hq
  cases r with
  | error e => exact hx pins H s e s' I hq
  | ok fl =>
    cases fl with
    | ret u => exact I.after hq
    | next => exact False.elim hq
    | brk => exact False.elim hq
    | cont => exact False.elim hq
theorem pe_callL {k : Nat} {f : Addr} {fd : FuncData} {ps : List Str} {sp : Sp} {E : L2.St → XK} {ds : List Value} {dvs : List V} {x : Str} {p pos : Pos} {e : Expr} {es : List Expr} {t : TA} (F : FnOk X.prog X.w X.K X.mg X.base (L2.CX X.prog X.w) k f fd ps sp) (hr : Room k X.A) (hg : Gl X x) (hm : X.mg x = some (.ref f)) (hk : PySem.W.keepIn X.K (.ref f) = true) (hb : Binds X.K fd ps ds) (hd : Vals dvs ds)
    (hx : ∀ σ, PassesAt (L2.CX X.prog X.w) X σ (E σ)) (W : Own X ys) (ha : PA X (e :: es) t) (hdb : (x == ("__debug__" : Str)) = false := by decide) (he : starEach (e :: es) X.env = (false, eval e X.env) :: starEach es X.env := by rfl) (hpl : (backTo pos (starEach es X.env)).any (·.1) = false := by rfl) :
    PE X (.Call (.Name x p) (e :: es) [] pos) (tCallL X ys sp dvs E t) := by
  refine ⟨fun pins s σ H Q I h => ?_⟩
  refine wpAny_Call_Name_kw (ld_glob I hg hm ?_ hdb)
  refine PySem.W.callWith_K (h₀ := X.base) I.ok.mod.kin hk (thn (ha.run pos pins s σ H _ I h) fun us s1 ⟨vs, H1, I1, r, q⟩ => ⟨I1.kIn, ?_⟩) he hpl
  exact run_fnLD F hr hb hd (hx σ) I1 W r (q _ (lendOk_of I1 W))
end
section
variable {X : Cx} {ct : String → Addr} {ys : List (Str × Nat)} {σ : L2.St} {v : Vw} {k : Clo} {js : List Nat} {vs : List V} {ds : List D} {f c : Addr} {cs : Lt}
theorem lend_view' (sr : SR X.K ct v) (L : LendOk X σ ys v.H cs) : Le v (v.lend cs) ∧ SR X.K ct (v.lend cs) := by
  have nn : ∀ b o, v.H b = some o → cs b = none := fun b o e => by
    cases z : cs b with
    | none => rfl
    | some p => rw [L.free b p z] at e; exact nomatch e
  have sG : Same v.G (Gs.lend v.G cs) := fun b o e => by rw [lend_none (nn b o (sr.sub _ _ e))]; exact e
  refine grow_ok sr sG (fun b o e => by rw [lend_none (nn b o e)]; exact e) (fun b o e => ?_) fun b q => ?_
  · cases z : cs b with
    | none => rw [lend_none z] at e ⊢; exact sr.sub _ _ e
    | some p => obtain ⟨ob, x⟩ := p; rw [lend_some z] at e ⊢; exact e
  · cases z : cs b with
    | none => rw [lend_none z] at q; exact .inl q
    | some p => exact .inr (L.free b p z)
theorem clo_rep' (sr : SR X.K ct v) (L : LendOk X σ ys v.H cs) (cp : Cap X ys k js) (hl : vs.length = js.length) (hv : ∀ (n j : Nat), js[n]? = some j → ∃ x, vs[n]? = some x ∧ σ[j]? = some (some x)) (r : RepL X.K ct v.G v.m ds vs)
    (h1 : v.G f = some (FnO f (NF.of k.st k.name k.qual (cloFrom X.env.cells (C8.fnScope k.st).names []) c))) (h2 : v.G c = some (CodeO c k.qual)) : Rep X.K ct (v.lend cs).G (v.lend cs).m (.clo k ds) (.ref f) := by
  obtain ⟨l3, s3⟩ := lend_view' sr L
  have hf : ∀ y ∈ (C8.fnScope k.st).names, y.2 = .free → ∃ c, X.env.cells.lookup y.1 = some c := fun y hy e => (cp.free y hy e).elim (fun z => L.ok.has _ (.inl z)) fun z => L.ok.has _ (.inr z)
  have at_ : ∀ (n : Nat) (y : Str), k.fr[n]? = some y → ∃ c v, (cloFrom X.env.cells (C8.fnScope k.st).names []).lookup y = some c ∧ vs[n]? = some v ∧ ∃ o, cs c = some (o, v) := fun n y hy => by
    have hn : n < js.length := by rw [← cp.len]; exact (List.getElem?_eq_some_iff.mp hy).1
    have hj := List.getElem?_eq_getElem hn
    obtain ⟨x, hx, hs⟩ := hv n _ hj
    have hm : (y, js[n]) ∈ k.fr.zip js := List.mem_iff_getElem?.mpr ⟨n, by rw [List.getElem?_zip_eq_some]; exact ⟨hy, hj⟩⟩
    obtain ⟨c, o, hc, hlt⟩ := L.get _ (cp.in_ _ hm) x hs
    exact ⟨c, x, clo_has hf (cp.fr y (List.mem_of_getElem? hy)) hc, hx, o, hlt⟩
  have cg : CellsG (v.lend cs).G (cloFrom X.env.cells (C8.fnScope k.st).names []) k.fr vs := by
    refine ⟨by rw [hl, cp.len], fun x y c e1 e2 => L.ok.inj _ _ c (clo_cm hf e1) (clo_cm hf e2), fun y c e => ?_, fun n y hy => ?_⟩
    · rcases cloFrom_mem (PySem.mem_of_lookup e) with hm | ⟨h1, h2⟩
      · exact nomatch hm
      · exact cp.all _ h1 rfl
    · obtain ⟨c, x, e1, e2, o, e3⟩ := at_ n y hy
      exact ⟨c, x, e1, e2, o, lend_some e3⟩
  refine .clo (F := NF.of k.st k.name k.qual (cloFrom X.env.cells (C8.fnScope k.st).names []) c) (l3.g _ _ h1) (l3.g _ _ h2) rfl cg (r.mono (fun b o e => ?_) .refl)
  refine minus_of (l3.g _ _ e) fun hb => ?_
  obtain ⟨y, hy, e2⟩ := List.mem_filterMap.mp hb
  obtain ⟨n, hn⟩ := List.mem_iff_getElem?.mp hy
  obtain ⟨c, x, e3, _, o2, e4⟩ := at_ n y hn
  rw [show (cloFrom X.env.cells (C8.fnScope k.st).names []).lookup y = some b from e2] at e3
  cases e3
  have z := L.free _ _ e4
  rw [sr.sub _ _ e] at z
  exact nomatch z
/-- the lent cells as a list -/
def lentL (X : Cx) (ys : List (Str × Nat)) : List Addr := ys.filterMap fun p => X.env.cells.lookup p.1
theorem lent_iff (L : LendOk X σ ys v.H cs) (hs : ∀ p ∈ ys, ∃ x, σ[p.2]? = some (some x)) (b : Addr) : (∃ p, cs b = some p) ↔ b ∈ lentL X ys := by
  constructor
  · rintro ⟨⟨o, x⟩, e⟩
    obtain ⟨p, hp, h⟩ := L.of b o x e
    exact List.mem_filterMap.mpr ⟨p, hp, h⟩
  · intro h
    obtain ⟨p, hp, e⟩ := List.mem_filterMap.mp h
    obtain ⟨x, hx⟩ := hs p hp
    obtain ⟨c, o, h1, h2⟩ := L.get p hp x hx
    rw [h1] at e
    cases e
    exact ⟨_, h2⟩
theorem unl_minus (L : LendOk X σ ys v.H cs) (hs : ∀ p ∈ ys, ∃ x, σ[p.2]? = some (some x)) (H : Hp) : unl H cs = minus H (lentL X ys) := by
  funext b
  unfold unl minus
  cases e : cs b with
  | none =>
    rw [if_neg fun h => ?_]
    obtain ⟨p, z⟩ := (lent_iff L hs b).mpr h
    rw [e] at z
    exact nomatch z
  | some p => rw [if_pos ((lent_iff L hs b).mp ⟨p, e⟩)]
/-- the cells are taken back -/
theorem lend_back {v' : Vw} (sr : SR X.K ct v) (L : LendOk X σ ys v.H cs) (hs : ∀ p ∈ ys, ∃ x, σ[p.2]? = some (some x)) (l : Le (v.lend cs) v') (s' : SR X.K ct v') (n : nocS v'.st = true) :
    Le v (v'.less (lentL X ys)) ∧ SR X.K ct (v'.less (lentL X ys)) ∧ Ce v'.G (lentL X ys) := by
  have ce : Ce v'.G (lentL X ys) := ⟨fun a ha => by
    obtain ⟨⟨o, x⟩, e⟩ := (lent_iff L hs a).mpr ha
    exact ⟨o, x, l.g _ _ (lend_some e)⟩⟩
  have ow := owns_less s' ce.ce
  have nn : ∀ b o, v.H b = some o → cs b = none := fun b o e => by
    cases z : cs b with
    | none => rfl
    | some p => rw [L.free b p z] at e; exact nomatch e
  have out : ∀ b, cs b = none → b ∉ lentL X ys := fun b e h => by
    obtain ⟨p, z⟩ := (lent_iff L hs b).mpr h
    rw [e] at z
    exact nomatch z
  have out' : ∀ b, b ∉ lentL X ys → cs b = none := fun b h => by
    cases z : cs b with
    | none => rfl
    | some p => exact absurd ((lent_iff L hs b).mp ⟨p, z⟩) h
  have owl : ∀ b, (v.lend cs).owns b → v.owns b := fun b ⟨i, o, a, e, lv, em, h⟩ => ⟨i, o, a, e, lv, em, h.imp id fun ⟨C, fs, h⟩ => ⟨C, fs, by
    have h' : lend v.H cs a = some (.ins C b fs) := h
    cases z : cs a with
    | none => rw [lend_none z] at h'; exact h'
    | some p => obtain ⟨o2, x⟩ := p; rw [lend_some z] at h'; exact nomatch h'⟩⟩
  have alH : ∀ b, (v.lend cs).H b = none → v.H b = none := fun b h => by
    have h' : lend v.H cs b = none := h
    cases z : cs b with
    | none => rw [lend_none z] at h'; exact h'
    | some p => exact L.free b p z
  refine ⟨⟨fun b o e => ?_, l.m, fun b o e n => ?_, fun b q => ?_, fun b q => ?_, fun b q => ?_⟩, less_ok s' ce n, ce⟩
  · have z := nn b o (sr.sub _ _ e)
    refine minus_of (l.g b o ?_) (out b z)
    show lend v.G cs b = some o
    rw [lend_none z]
    exact e
  · have z := nn b o e
    refine minus_of (l.h b o ?_ fun y => n (owl b y)) (out b z)
    show lend v.H cs b = some o
    rw [lend_none z]
    exact e
  · have q' : minus v'.G (lentL X ys) b ≠ none := q
    by_cases hb : b ∈ lentL X ys
    · exact absurd (minus_in hb) q'
    · have hz := out' b hb
      unfold minus at q'
      rw [if_neg hb] at q'
      rcases l.nw b q' with z | z | z
      · have z' : lend v.G cs b ≠ none := z
        rw [lend_none hz] at z'
        exact .inl z'
      · exact .inr (.inl (alH b z))
      · exact .inr (.inr (owl b z))
  · rcases l.ow b ((ow b).mp q) with z | z
    · exact .inl (owl b z)
    · exact .inr (alH b z)
  · have q' : minus v'.H (lentL X ys) b = none := q
    by_cases hb : b ∈ lentL X ys
    · obtain ⟨p, e⟩ := (lent_iff L hs b).mpr hb
      exact L.free b p e
    · unfold minus at q'
      rw [if_neg hb] at q'
      exact alH b (l.al b q')
end
/-- what is known of a function that was made while the def runs -/
def LiveF (X : Cx) (v : Vw) (k : Clo) (n : Nat) : Prop := ∃ f c, v.m n = some f ∧ v.G f = some (FnO f (NF.of k.st k.name k.qual (cloFrom X.env.cells (C8.fnScope k.st).names []) c)) ∧ v.G c = some (CodeO c k.qual)
theorem LiveF.mono {X : Cx} {v v' : Vw} {k : Clo} {n : Nat} (h : LiveF X v k n) (l : Le v v') : LiveF X v' k n :=
  let ⟨f, c, h1, h2, h3⟩ := h
  ⟨f, c, l.m _ _ h1, l.g _ _ h2, l.g _ _ h3⟩
/-- the function itself in the place of its name -/
def subC (n : Nat) (x : D) : D → D
  | .ob i => if i = n then x else .ob i
  | d => d
theorem subC_rep {K : PySem.W.Frag} {ct : String → Addr} {G : Hp} {m : Nat → Option Addr} {n : Nat} {x : D} {f : Addr} (hm : m n = some f) (h : Rep K ct G m x (.ref f)) {d : D} {y : V} (r : Rep K ct G m d y) : Rep K ct G m (subC n x d) y := by
  cases r with
  | @ob _ _ i a e =>
    show Rep K ct G m (if i = n then x else .ob i) _
    split
    · rename_i z
      subst z
      rw [hm] at e
      cases e
      exact h
    · exact .ob e
  | non => exact .non
  | bl b => exact .bl b
  | int b => exact .int b
  | str b => exact .str b
  | fn s => exact .fn s
  | tup h r => exact .tup h r
  | lst h r => exact .lst h r
  | dct h l r => exact .dct h l r
  | ev0 h => exact .ev0 h
  | ev n h h2 l r => exact .ev n h h2 l r
  | clo h1 h2 h3 h4 r => exact .clo h1 h2 h3 h4 r
theorem subC_repL {K : PySem.W.Frag} {ct : String → Addr} {G : Hp} {m : Nat → Option Addr} {n : Nat} {x : D} {f : Addr} (hm : m n = some f) (h : Rep K ct G m x (.ref f)) : ∀ {ds : List D} {ys : List V}, RepL K ct G m ds ys → RepL K ct G m (ds.map (subC n x)) ys
  | _, _, .nil => .nil
  | _, _, .cons a r => .cons (subC_rep hm h a) (subC_repL hm h r)
/-- what comes of such a call: no function stands in it -/
def pureR : R D → R D
  | .ok d s => if noc d = true ∧ nocS s = true then .ok d s else .stk
  | .exc e s => if nocL (e.fs.map (·.2)) = true ∧ nocS s = true then .exc e s else .stk
  | .stk => .stk
/-- f(.., g, ..), g a function made here (its slots js; n its name's place) -/
def eCallL (F : List D → Sto → R D) (k : Clo) (js : List Nat) (n : Nat) (a : As) (dd : List D) : E := fun δ s => match takeS δ js with
  | some cs => (a δ s).bind fun ds s1 => pureR (F (ds.map (subC n (.clo k cs)) ++ dd) s1)
  | none => .stk
section
variable {X : Cx} {C : Cc} {pos p : Pos} {x : Str} {e : Expr} {es : List Expr} {fa : As} {kk n j nn : Nat} {f : Addr} {fd : FuncData} {ps : List Str} {F : List D → Sto → R D} {dd : List D} {dvs : List V} {k : Clo} {js : List Nat}
theorem se_callL (hF : FnOk X.prog X.w X.K X.mg X.base (L2.CX X.prog X.w) kk f fd ps (spG X.K C.ct n F)) (hr : Room kk X.A) (tk : Takes X C.W) (hg : Gl X x) (hm : X.mg x = some (.ref f)) (hk : PySem.W.keepIn X.K (.ref f) = true)
    (hb : ∃ ds, Vals dvs ds ∧ Binds X.K fd ps ds) (rd : ∀ G m, RepL X.K C.ct G m dd dvs) (lf : LiveF X C.v0 k nn) (cp : Cap X (k.fr.zip js) k js) (W : Own X (k.fr.zip js))
    (ha : SA X C (e :: es) fa) (hl : LenA fa j) (hj : j + dd.length = n) (hdb : (x == ("__debug__" : Str)) = false := by decide) (he : starEach (e :: es) X.env = (false, eval e X.env) :: starEach es X.env := by rfl) (hpl : (backTo pos (starEach es X.env)).any (·.1) = false := by rfl) :
    SE X C (.Call (.Name x p) (e :: es) [] pos) (eCallL F k js nn fa dd) := by
  obtain ⟨dls, hv, hb⟩ := hb
  refine pe_weak (pe_callL hF hr hg hm hk hb hv (fun σ => passAt tk σ) W ha hdb he hpl) fun σ H Q ⟨δ, v, re, eH, h⟩ => ?_
  unfold eCallL at h
  split at h
  · rename_i cs0 q0
    refine ⟨δ, v, re, eH, on_mono (on_eq (on_bind (rel := rA X.K C.ct) h)) fun ds vs v1 l1 s1 r1 h1 => ?_⟩
    obtain ⟨h1, s, q⟩ := h1
    intro cs L
    have re1 := re.step l1 s1
    obtain ⟨us, ul, uv, ur⟩ := takeS_at re1 q0
    obtain ⟨f1, c1, m1, g1, g2⟩ := (lf.mono re.le).mono l1
    have hs : ∀ p ∈ k.fr.zip js, ∃ x, σ[p.2]? = some (some x) := fun p hp => by
      obtain ⟨i, hi⟩ := List.mem_iff_getElem?.mp hp
      obtain ⟨_, hj2⟩ := (List.getElem?_zip_eq_some (z := p)).mp hi
      obtain ⟨x, _, hx⟩ := uv i _ hj2
      exact ⟨x, hx⟩
    obtain ⟨l2, s2⟩ := lend_view' s1 L
    have rc := clo_rep' s1 L cp ul uv ur g1 g2
    refine ⟨v1.lend cs, ds.map (subC nn (.clo k cs0)) ++ dd, rfl, s2, by rw [List.length_append, List.length_map, hl _ _ _ _ q, hj], (subC_repL (l2.m _ _ m1) rc (l2.repl r1)).append (rd _ _), ?_⟩
    show match F (ds.map (subC nn (.clo k cs0)) ++ dd) v1.st with
      | .ok d s => _
      | .exc e s => _
      | .stk => _
    cases z : F (ds.map (subC nn (.clo k cs0)) ++ dd) v1.st with
    | stk => rw [z] at h1; exact h1.elim
    | ok d s3 =>
      rw [z] at h1
      unfold pureR at h1
      dsimp only at h1
      intro y v' l sr es ry
      split at h1
      · rename_i hc
        obtain ⟨l3, s4, ce⟩ := lend_back s1 L hs l sr (by rw [es]; exact hc.2)
        have := h1 y (v'.less (lentL X (k.fr.zip js))) l3 s4 es (ry.less ce hc.1)
        rw [unl_minus L hs]
        exact this
      · exact h1.elim
    | exc e2 s3 =>
      rw [z] at h1
      unfold pureR at h1
      dsimp only at h1
      intro cls dd' v' l sr es rx
      split at h1
      · rename_i hc
        obtain ⟨l3, s4, ce⟩ := lend_back s1 L hs l sr (by rw [es]; exact hc.2)
        have := h1 cls dd' (v'.less (lentL X (k.fr.zip js))) l3 s4 es ⟨rx.1, rx.2.imp id fun ⟨nf, d, fs, h1, h2, h3⟩ => ⟨nf, d, fs, h1, ce.ne h2 (fun x φ z => nomatch z), RepP.less ce h3 hc.1⟩⟩
        rw [unl_minus L hs]
        exact this
      · exact h1.elim
  · exact h.elim
end

/-! ### the def, while its maker runs -/
open Classical in
noncomputable def sDef (τ : Nat) (x : String) (nm : Nat → Nat → Str) (i : Nat) (rest : Nat → S) : S := fun δ s => if s[τ]? = some (.tab x nm) then rest s.length (δ.set i (some (.ob s.length))) (s ++ [.gone]) else .stk
/-- a name for what is known -/
def Vw.named (v : Vw) (f : Addr) : Vw := ⟨v.G, v.H, mset v.m v.st.length f, v.st ++ [.gone]⟩
theorem named_ok {K : PySem.W.Frag} {ct : String → Addr} {v : Vw} (sr : SR K ct v) (f : Addr) : Le v (v.named f) ∧ SR K ct (v.named f) := by
  have gr : Grow v.m (mset v.m v.st.length f) := mset_grow (sr.dom _ (Nat.le_refl _))
  have get : ∀ {i : Nat} {u : O}, (v.st ++ [.gone])[i]? = some u → u ≠ .gone → i < v.st.length ∧ v.st[i]? = some u := fun e n => by
    rcases get_snoc e with z | ⟨_, z⟩
    · exact z
    · exact absurd z n
  have ng : ∀ {u : O}, u.live = true → u ≠ .gone := fun h z => by subst z; exact nomatch h
  refine ⟨⟨Same.refl _, gr, fun _ _ e _ => e, fun _ e => .inl e, fun b ⟨i, o, a, e, l, em, h⟩ => ?_, fun _ e => e⟩, sr.sub, fun i hi => ?_, fun i o e l => ?_, fun i j o u a e1 e2 l1 l2 m1 m2 => ?_, fun i kvs e => ?_⟩
  · obtain ⟨hi, e⟩ := get e (ng l)
    have em' : mset v.m v.st.length f i = some a := em
    rw [mset_ne (Nat.ne_of_lt hi)] at em'
    exact .inl ⟨i, o, a, e, l, em', h⟩
  · have hl : v.st.length + 1 ≤ i := by simpa [Vw.named] using hi
    show mset v.m v.st.length f i = none
    rw [mset_ne (by omega)]
    exact sr.dom i (by omega)
  · obtain ⟨hi, e⟩ := get e (ng l)
    obtain ⟨a, em, ga, r⟩ := sr.obj i o e l
    exact ⟨a, (mset_ne (Nat.ne_of_lt hi)).trans em, ga, r.mono' (v := v) (v' := v.named f) (Same.refl _) gr rfl fun C dx fs _ q1 q2 => ⟨rfl, q2⟩⟩
  · obtain ⟨hi, e1⟩ := get e1 (ng l1)
    obtain ⟨hj, e2⟩ := get e2 (ng l2)
    have m1' : mset v.m v.st.length f i = some a := m1
    have m2' : mset v.m v.st.length f j = some a := m2
    rw [mset_ne (Nat.ne_of_lt hi)] at m1'
    rw [mset_ne (Nat.ne_of_lt hj)] at m2'
    exact sr.inj i j o u a e1 e2 l1 l2 m1' m2'
  · obtain ⟨hi, e⟩ := get e (fun z => nomatch z)
    exact FkR.mono (v := v) (v' := v.named f) (Same.refl _) gr (sr.fk i kvs e)
section
variable {X : Cx} {C : Cc} {ys : List (Str × Nat)} {pos : Pos} {st : Stmt} {rest : List Stmt} {rf : Nat → S} {nm : Nat → Nat → Str} {τ i : Nat} {x : String} {k : Clo} {js : List Nat} {c : Addr}
theorem ss_def (d : DefW X k st pos nm i) (cp : Cap X ys k js) (W : Own X ys) (TB : TabB X.base X.mg c (C.ct x)) (hcode : X.env.code = .ref c)
    (h2 : ∀ (n : Nat) (v1 : Vw), Le C.v0 v1 → LiveF X v1 k n → SSs X ⟨v1, C.ct, C.W⟩ rest (rf n)) : SSs X C (st :: rest) (sDef τ x nm i rf) := by
  refine pss_weak (pss_cons (d.ps cp TB hcode W) (u := fun D σ H => ∃ n v1, Le C.v0 v1 ∧ LiveF X v1 k n ∧ liftS X.K ⟨v1, C.ct, C.W⟩ (rf n) D σ H) ⟨fun pins s σ H D I ⟨n, v1, l, lf, h⟩ => (h2 n v1 l lf).run pins s σ H D I h⟩) fun Dn σ H ⟨δ, v, re, eH, h⟩ => ?_
  subst eH
  unfold sDef at h
  split at h
  · rename_i e
    refine def_ok re.sr e d.nm fun f c' v1 hi l1 s1 es em g1 g2 => ?_
    obtain ⟨l2, s2⟩ := named_ok s1 f
    have lv := re.le.trans (l1.trans l2)
    refine ⟨v1.st.length, v1.named f, lv, ⟨f, c', mset_same, g1, g2⟩, δ.set i (some (.ob v.st.length)), v1.named f, ?_, rfl, ?_⟩
    · have r1 := (re.step (l1.trans l2) s2).setV (d := .ob v1.st.length) (x := .ref f) i (.ob mset_same)
      rw [es] at r1
      exact ⟨Le.refl, s2, r1.len, r1.sl⟩
    · have h' : onS X.K C v (rf v.st.length (δ.set i (some (.ob v.st.length))) (v.st ++ [.gone])) Dn := h
      have e2 : (v1.named f).st = v.st ++ [.gone] := by show v1.st ++ _ = _; rw [es]
      rw [es, e2]
      have up : ∀ {σ' δ' v'}, RE X.K ⟨v1.named f, C.ct, C.W⟩ σ' δ' v' → RE X.K C σ' δ' v' := fun r => ⟨lv.trans r.le, r.sr, r.len, r.sl⟩
      have lv2 := l1.trans l2
      cases z : rf v.st.length (δ.set i (some (.ob v.st.length))) (v.st ++ [.gone]) with
      | nx δ' s' => rw [z] at h'; exact fun σ' v' r l es => h' σ' v' (up r) (lv2.trans l) es
      | bk δ' s' => rw [z] at h'; exact fun σ' v' r l es => h' σ' v' (up r) (lv2.trans l) es
      | ct δ' s' => rw [z] at h'; exact fun σ' v' r l es => h' σ' v' (up r) (lv2.trans l) es
      | rt d' s' => rw [z] at h'; exact fun x v' l sr es r => h' x v' (lv.trans l) sr es r
      | exc e3 δ' s' => rw [z] at h'; exact fun cls dd σ' v' r l es rx => h' cls dd σ' v' (up r) (lv2.trans l) es rx
      | stk => rw [z] at h'; exact h'.elim
  · exact h.elim
end
section
variable {P : Program} {w : World} {K : PySem.W.Frag} {mg : Str → Option Value} {base : Heap} {ct : String → Addr}
/-- a def in which others are made, that does not tell them -/
theorem fn_okL {x qual : Str} {st : Stmt} {f : Addr} {fd : FuncData} {c : Addr} {N ps : List Str} {k : Nat} {body : S} (F : FunC K x qual st f fd c) (sc : FnScope N ps (L2.defScope st)) (hn : ps.length ≤ N.length)
    (hb : ∀ (A : Around) (outer : List Env) (s : Shared) (H : Hp) (v : Vw) (E : XK), Room k (A.deeper (PyProof.Rows.envOfC qual (L2.defScope st) s.heap.objs.size f (.ref c))) →
      SSs (cxOf (L2.CX P w) P w K mg base N qual (L2.defScope st) f (.ref c) A outer s H E) ⟨v, ct, fun cls d _ H => E cls d H⟩ (L2.defBody st) body) :
    FnOk P w K mg base (L2.CX P w) (k + 1) f fd ps (spG K ct ps.length (runG N.length body)) := by
  obtain ⟨oc, od, kV, doc, pm, an, ctv, osl, rfl, lk, hcd⟩ := F.ex
  refine fn_of lk hcd sc (fun vs H Q E ⟨v, ds, e, sr, l, r, _⟩ => by rw [← l, r.length]) (fun A outer s H vs Q E hr ⟨v, ds, e, sr, l, r, h⟩ => ⟨_, hb A outer s H v E hr, ?_⟩)
  subst e
  have rs : RE K ⟨v, ct, fun cls d _ H => E cls d H⟩ (L2.start N vs) (ds.map some ++ List.replicate (N.length - ds.length) none) v := re_start .refl sr r (by omega)
  refine ⟨_, v, rs, rfl, ?_⟩
  unfold runG at h
  cases e : body (ds.map some ++ List.replicate (N.length - ds.length) none) v.st with
  | nx δ s => rw [e] at h; exact fun σ' v' re l es => h .non v' l re.sr es .non
  | rt d s => rw [e] at h; exact fun x v' l sr' es r => h x v' l sr' es r
  | exc e2 δ s => rw [e] at h; exact fun cls dd σ' v' re l es rx => h cls dd v' l re.sr es rx
  | bk δ s => rw [e] at h; exact h.elim
  | ct δ s => rw [e] at h; exact h.elim
  | stk => rw [e] at h; exact h.elim
end
end Gs

/-! GSu: a call within an except suite (the callee runs while an exception is handled). -/
namespace Gs
open PySem PySem.Spec PyProof.Rows L2
/-- room, whatever is handled -/
structure RoomS (k : Nat) (A : Around) : Prop where
  dp : A.depth + 3 * k + 5 < recursionLimit
  un : A.units + 16 * k + 200 < cLine
theorem RoomS.mono {j k : Nat} {A : Around} (r : RoomS k A) (h : j ≤ k) : RoomS j A := ⟨by have := r.dp; omega, by have := r.un; omega⟩
theorem RoomS.deeper {k : Nat} {A : Around} (r : RoomS (k + 1) A) (env : Env) : RoomS k (A.deeper env) :=
  ⟨by have := r.dp; show A.depth + 1 + 3 * k + 5 < _; omega, by have := r.un; show A.units + 3 + 16 * k + 200 < _; omega⟩
theorem marked {k : Nat} {A : Around} {o : Option Value} (r : Room k A) : RoomS k (A.mark o) := ⟨r.dp, r.un⟩
/-- a def's promise, whatever is handled -/
structure FnS (P : Program) (w : World) (K : PySem.W.Frag) (mg : Str → Option Value) (base : Heap) (CX : CXT) (k : Nat) (f : Addr) (fd : FuncData) (ps : List Str) (sp : Sp) : Prop where
  len : ∀ vs H Q E, sp vs H Q E → vs.length = ps.length
  run : ∀ (A : Around) (outer : List Env) (s : Shared) (H : Hp) (args : Args) (us : List Value) (vs : List V) (Q : VK) (E : XK), RoomS k A → Env0 P w K mg base A outer s H → BindsTo s fd args (ps.zip us) → Vals vs us → sp vs H Q E →
    codeAny (model P w) A (.call (.ref f) args) (CR CX outer P w H s Q E) s
def cxS (CX : CXT) (P : Program) (w : World) (K : PySem.W.Frag) (mg : Str → Option Value) (base : Heap) (N : List Str) (qual : Str) (scope : Scope) (f : Addr) (cd : Value) (A : Around) (outer : List Env) (s : Shared) (H : Hp) (E : XK) : Cx :=
  { cxOf CX P w K mg base N qual scope f cd A outer s H E with calm := false }
section
variable {CX : CXT} {P : Program} {w : World} {K : PySem.W.Frag} {mg : Str → Option Value} {base : Heap} {N ps : List Str} {qual : Str} {scope : Scope} {f : Addr} {cd : Value} {A : Around} {outer : List Env} {s s1 : Shared} {H : Hp} {E : XK} {us : List Value} {vs : List V}
theorem inv_startS (S : FnScope N ps scope) (e0 : Env0 P w K mg base A outer s H) (hl : vs.length = ps.length) (r : Vals vs us)
    (x : InCallC s s.heap.objs.size (bindL (envOfC qual scope s.heap.objs.size f cd).kindOf (ps.zip us) fun _ => none) (cellsFrom (s.heap.objs.size + 1) scope.names []) (bindC (envOfC qual scope s.heap.objs.size f cd).kindOf (ps.zip us) fun _ => none) s1) :
    Inv (cxS CX P w K mg base N qual scope f cd A outer s H E) [] (L2.start N vs) H s1 := by
  have e1 : Env0 P w K mg base { A with handled := none } outer s H := ⟨e0.frames, e0.mod, e0.bs, e0.bsz, e0.funs, e0.frf, e0.hok, e0.bare⟩
  have I := inv_start (CX := CX) (E := E) (qual := qual) (f := f) (cd := cd) S (A := { A with handled := none }) rfl e1 hl r x
  have ok := I.ok
  exact ⟨⟨ok.mod, ok.kind, ok.glob, ok.blt, ok.above, ok.inj, ok.has, ok.cab, fun z => absurd (show false = true from z) Bool.false_ne_true, Around.frames_deeper e0.frames, ok.stk, ok.exf, ok.bs, ok.bsz, ok.noex, ok.exfs, ok.funs, ok.frf⟩,
    I.os, I.bare, I.base, I.loc, I.cell, I.free, I.freeC, I.pin, I.hok, I.len⟩
end
/-- a def by its body, whatever is handled -/
theorem fn_ofS {CX : CXT} {P : Program} {w : World} {K : PySem.W.Frag} {mg : Str → Option Value} {base : Heap} {k : Nat} {f : Addr} {name qual : Str} {params : Arguments} {body : List Stmt} {scope : Scope} {dV kV doc pm cdv ct oc : Value} {an od : Option Addr}
    {osl : Array (Option Value)} {N ps : List Str} {sp : Sp} (lk : K.lookup f = some ⟨oc, od, .func (PySem.W.fnOf name qual params body scope dV kV doc pm an cdv ct), osl⟩) (hcd : PySem.W.codeIn K cdv qual = true) (S : FnScope N ps scope)
    (len : ∀ vs H Q E, sp vs H Q E → vs.length = ps.length)
    (hbody : ∀ (A : Around) (outer : List Env) (s : Shared) (H : Hp) (vs : List V) (Q : VK) (E : XK), RoomS k (A.deeper (envOfC qual scope s.heap.objs.size f cdv)) → sp vs H Q E →
      ∃ t, PSs (cxS CX P w K mg base N qual scope f cdv A outer s H E) body t ∧ t { nx := fun _ H' => Q .non H', rt := Q } (L2.start N vs) H) :
    FnS P w K mg base CX (k + 1) f (PySem.W.fnOf name qual params body scope dV kV doc pm an cdv ct) ps sp := by
  refine ⟨len, fun A outer s H args us vs Q E hr e0 hb r hsp => ?_⟩
  have hl := len _ _ _ _ hsp
  have KX : K.In s.heap := e0.mod.kin.keeps fun b o e => (e0.bs b o e).1
  have lim : s.heap.NoLimit := e0.mod.nolimit.keeps fun b o e => (e0.bs b o e).1
  have hkind : ∀ y ∈ ps.zip us, scope.names.lookup y.1 = some .local ∨ (scope.names.lookup y.1 = some .cell ∧ ((cellsFrom (s.heap.objs.size + 1) scope.names []).lookup y.1).isSome = true) := fun ⟨n, v⟩ hy => by
    rcases S.par n (List.of_mem_zip hy).1 with q | q
    · exact .inl q
    · exact .inr ⟨q, PySem.W.cellsFrom_some _ _ _ (.inl q)⟩
  refine codeAny_call_function (by have := hr.dp; omega) (KX _ _ lk) rfl S.co S.gen rfl (PySem.W.codeRec_of KX hcd) (hb _ _ _ _ ?_)
  refine wpAny_newFunctionEnv_cells S.kind hkind fun env he s1 x => ?_
  subst he
  refine ⟨lim.keeps x.toInCall.keep, codeAny_func ?_⟩
  obtain ⟨t, ht, hq⟩ := hbody A outer s H vs Q E (hr.deeper _) hsp
  have I : Inv (cxS CX P w K mg base N qual scope f cdv A outer s H E) [] (L2.start N vs) H s1 := inv_startS S e0 hl r x
  refine wpAny_mono (ht.run [] s1 (L2.start N vs) H _ I hq) (fun fl s' hs => ?_) fun e s' hs => hs
  have fin : ∀ {σ' : L2.St} {H' : Hp} {v : V} {u : Value}, Inv (cxS CX P w K mg base N qual scope f cdv A outer s H E) [] σ' H' s' → L2.RelV v u → Q v H' → CE outer P w H s Q u s' :=
    fun {σ' H' v u} J rv q => ⟨v, H', J.os, J.bare, J.base, J.hok, rv, q⟩
  cases fl with
  | ret u =>
    obtain ⟨v, σ', H', J, rv, q⟩ := hs
    exact fin J rv q
  | next =>
    obtain ⟨σ', H', J, q⟩ := hs
    exact fin (v := V.non) (u := Value.none) J rfl q
  | brk =>
    obtain ⟨_, _, _, q⟩ := hs
    exact False.elim q
  | cont =>
    obtain ⟨_, _, _, q⟩ := hs
    exact False.elim q
section
variable {P : Program} {w : World} {K : PySem.W.Frag} {mg : Str → Option Value} {base : Heap} {ct : String → Addr}
theorem fn_okS {x qual : Str} {st : Stmt} {f : Addr} {fd : FuncData} {N ps : List Str} {k : Nat} {body : S} (F : L2.Fun K x qual st f fd) (sc : FnScope N ps (defScope st)) (hn : ps.length ≤ N.length)
    (hb : ∀ (cdv : Value) (A : Around) (outer : List Env) (s : Shared) (H : Hp) (v : Vw) (E : XK), RoomS k (A.deeper (PyProof.Rows.envOfC qual (defScope st) s.heap.objs.size f cdv)) →
      SSs (cxS (L2.CX P w) P w K mg base N qual (defScope st) f cdv A outer s H E) ⟨v, ct, fun cls d _ H => E cls d H⟩ (defBody st) body) :
    FnS P w K mg base (L2.CX P w) (k + 1) f fd ps (spG K ct ps.length (runG N.length body)) := by
  obtain ⟨oc, od, kV, doc, pm, an, cdv, ctv, osl, rfl, lk, hcd⟩ := F.ex
  refine fn_ofS lk hcd sc (fun vs H Q E ⟨v, ds, e, sr, l, r, _⟩ => by rw [← l, r.length]) (fun A outer s H vs Q E hr ⟨v, ds, e, sr, l, r, h⟩ => ⟨_, hb cdv A outer s H v E hr, ?_⟩)
  subst e
  have rs : RE K ⟨v, ct, fun cls d _ H => E cls d H⟩ (L2.start N vs) (ds.map some ++ List.replicate (N.length - ds.length) none) v := re_start .refl sr r (by omega)
  refine ⟨_, v, rs, rfl, ?_⟩
  unfold runG at h
  cases e : body (ds.map some ++ List.replicate (N.length - ds.length) none) v.st with
  | nx δ s => rw [e] at h; exact fun σ' v' re l es => h .non v' l re.sr es .non
  | rt d s => rw [e] at h; exact fun x v' l sr' es r => h x v' l sr' es r
  | exc e2 δ s => rw [e] at h; exact fun cls dd σ' v' re l es rx => h cls dd v' l re.sr es rx
  | bk δ s => rw [e] at h; exact h.elim
  | ct δ s => rw [e] at h; exact h.elim
  | stk => rw [e] at h; exact h.elim
end
section
variable {X : Cx} {CX : CXT} {k : Nat} {f : Addr} {fd : FuncData} {ps : List Str} {sp : Sp} {E : L2.St → XK} {x : Str} {p pos : Pos} {e : Expr} {es : List Expr} {t : TA}
theorem run_fnH {pins : List (Addr × Obj)} {σ : L2.St} {H : Hp} {s : Shared} {Q : VK} {us : List Value} {vs : List V} (F : FnS X.prog X.w X.K X.mg X.base CX k f fd ps sp) (hr : RoomS k X.A) (hb : Binds X.K fd ps []) (hx : PassesAt CX X σ (E σ))
    (I : Inv X pins σ H s) (r : Vals vs us) (h : sp vs H Q (E σ)) : wpAny (model X.prog X.w) X.A (call (.ref f) us) (EP X pins σ Q) X.xe s := by
  have hl : us.length = ps.length := by rw [← r.length]; exact F.len _ _ _ _ h
  have b := hb s us I.kIn (by rw [List.append_nil]; exact hl)
  rw [List.append_nil] at b
  refine wpAny_call (codeAny_mono (F.run X.A X.stack s H ⟨us, []⟩ us vs Q (E σ) hr I.env0 b r h) fun r s' hq => ?_)
  cases r with
  | error e => exact hx pins H s e s' I hq
  | ok fl =>
    cases fl with
    | ret u => exact I.after hq
    | next => exact False.elim hq
    | brk => exact False.elim hq
    | cont => exact False.elim hq
theorem pe_callH (F : FnS X.prog X.w X.K X.mg X.base CX k f fd ps sp) (hr : RoomS k X.A) (hg : Gl X x) (hm : X.mg x = some (.ref f)) (hk : PySem.W.keepIn X.K (.ref f) = true) (hb : Binds X.K fd ps []) (hx : ∀ σ, PassesAt CX X σ (E σ))
    (ha : PA X (e :: es) t) (hdb : (x == ("__debug__" : Str)) = false := by decide) (he : starEach (e :: es) X.env = (false, eval e X.env) :: starEach es X.env := by rfl) (hpl : (backTo pos (starEach es X.env)).any (·.1) = false := by rfl) :
    PE X (.Call (.Name x p) (e :: es) [] pos) (tCallS sp E t) := by
  refine ⟨fun pins s σ H Q I h => ?_⟩
  refine wpAny_Call_Name_kw (ld_glob I hg hm ?_ hdb)
  refine PySem.W.callWith_K (h₀ := X.base) I.ok.mod.kin hk (thn (ha.run pos pins s σ H _ I h) fun us s1 ⟨vs, H1, I1, r, q⟩ => ⟨I1.kIn, ?_⟩) he hpl
  exact run_fnH F hr hb (hx σ) I1 r q
end
section
variable {X : Cx} {C : Cc} {pos p : Pos} {x : Str} {e : Expr} {es : List Expr} {fa : As} {k n : Nat} {f : Addr} {fd : FuncData} {ps : List Str} {F : List D → Sto → R D}
theorem se_callH (hF : FnS X.prog X.w X.K X.mg X.base (L2.CX X.prog X.w) k f fd ps (spG X.K C.ct n F)) (hr : RoomS k X.A) (tk : Takes X C.W) (hg : Gl X x) (hm : X.mg x = some (.ref f)) (hk : PySem.W.keepIn X.K (.ref f) = true) (hb : Binds X.K fd ps [])
    (ha : SA X C (e :: es) fa) (hl : LenA fa n) (hdb : (x == ("__debug__" : Str)) = false := by decide) (he : starEach (e :: es) X.env = (false, eval e X.env) :: starEach es X.env := by rfl) (hpl : (backTo pos (starEach es X.env)).any (·.1) = false := by rfl) :
    SE X C (.Call (.Name x p) (e :: es) [] pos) (eCall F fa) :=
  pe_weak (pe_callH hF hr hg hm hk hb (fun σ => passAt tk σ) ha hdb he hpl) fun σ H Q ⟨δ, v, re, eH, h⟩ => ⟨δ, v, re, eH, on_mono (on_eq (on_bind h)) fun ds vs v1 l1 s1 r1 h1 => by
    obtain ⟨h1, s, q⟩ := h1
    exact on_sp s1 (hl _ _ _ _ q) r1 h1⟩
end
end Gs

/-! GMd: min of a list of whole numbers, with a default. -/
namespace Gs
open PySem PySem.Spec PyProof.Rows L2 PySem PySem.W 
def gMinDf (i : Int) : BA
  | [.lst xs] => (intsOf xs).map fun ns => match ns with
    | [] => .int i
    | n :: r => .int (r.foldl min n)
  | _ => none
section
variable {X : Cx}
theorem reads_ints {h : Heap} : ∀ {ns : List Int} {us : List Value}, Vals (ns.map V.int) us → ReadsAll h us (ns.map PyData.int) []
  | [], _, .nil => .nil
  | n :: ns, _, .cons r rs => by
    obtain ⟨t, rfl⟩ := r
    exact .cons (.int n t) (reads_ints rs)
theorem cr_minDf {ct : String → Addr} (hc : X.calm = true) (hu : X.A.units + 64 < cLine) (i : Int) : CallRK X (.builtin "min") [Str.ofString "default"] (fun xs zs H Q => zs = [.int i] ∧ rDA X.K ct (gMinDf i) xs H Q) := by
  intro pins s σ H xs zs us ws Q I r rz h
  obtain ⟨ez, v0, ds, d, rfl, sr, e, rl, h⟩ := h
  subst ez
  obtain ⟨wd, rfl, td, rfl⟩ := vals1 rz
  unfold gMinDf at e
  split at e
  · rename_i ys
    cases rl with
    | cons r1 r2 =>
      cases r2
      obtain ⟨u, rfl, ru⟩ := vals1 r
      cases q : intsOf ys with
      | none => rw [q] at e; exact nomatch e
      | some ns =>
        rw [q] at e
        simp only [Option.map_some, Option.some.injEq] at e
        cases r1 with
        | lst p rr =>
          rename_i a vs
          have hy := intsOf_eq q
          subst hy
          cases ru
          have hv : vs = ns.map V.int := rr.of_ints
          subst hv
          obtain ⟨its, rv, ⟨o, n, ho, hcl, _, hd⟩, _⟩ := I.list p
          have hrd := reads_ints (h := s.heap) rv
          refine min_list_default (xs := ns.map PyData.int) (I.ok.hd hc) ⟨o, ho, hcl, n, hd⟩ hrd ⟨?_, ?_⟩ ?_ ?_ ?_
          · intro x hx y hy
            obtain ⟨i1, _, rfl⟩ := List.mem_map.mp hx
            obtain ⟨i2, _, rfl⟩ := List.mem_map.mp hy
            rfl
          · intro x hx
            obtain ⟨i1, _, rfl⟩ := List.mem_map.mp hx
            exact fun z => nomatch z
          · have hd0 : ∀ l : List Int, PyData.depthAll (l.map PyData.int) = 0 := fun l => by
              induction l with
              | nil => rfl
              | cons a l ih => simp only [List.map_cons, PyData.depthAll, ih, PyData.depth]; rfl
            rw [hd0]
            omega
          · intro hz h' tk hk
            have hns : ns = [] := by simpa using hz
            subst hns
            simp only at e
            subst e
            exact ⟨.int i, _, I.kept hk, ⟨td, rfl⟩, h _ v0 .refl sr rfl (.int i)⟩
          · intro y ys j v h' tk bs hxs hvj hrm hk
            cases ns with
            | nil => exact nomatch hxs
            | cons m r =>
              simp only [List.map_cons, List.cons.injEq] at hxs
              obtain ⟨rfl, rfl⟩ := hxs
              rw [minD_ints] at hrm
              simp only at e
              subst e
              cases hrm
              exact ⟨.int _, _, I.kept hk, ⟨_, rfl⟩, h _ v0 .refl sr rfl (.int _)⟩
  · exact nomatch e
theorem se_minDf {C : Cc} {p pos kp cp : Pos} {j : Nat} {e : Expr} {fa : As} {i : Int} (hc : X.calm = true) (hu : X.A.units + 64 < cLine) (hg : Gl X "min") (hm : X.mg "min" = none) (hv : bootBuiltins "min" = some (.builtin "min")) (ha : SA X C [e] fa) (he : backTo pos (starEach [e] X.env) = (false, eval e X.env) :: backTo pos (starEach [] X.env) := by rfl) (hpl : (backTo pos (starEach [e] X.env)).any (·.1) = false := by rfl) :
    SE X C (.Call (.Name "min" p) [e] [⟨some (Str.ofString "default"), .Constant (.int i) j cp, kp⟩] pos) (eFn (gMinDf i) fa) :=
  pe_weak (pe_callBK (cr_minDf (ct := C.ct) hc hu i) hg hm hv ha (pk_cons pe_int pk_nil) (by decide) (by decide) he hpl) fun σ H Q h => by
    obtain ⟨δ, v, re, rfl, h⟩ := h
    exact ⟨δ, v, re, rfl, on_mono (on_bind h) fun d x v1 l1 s1 r1 h1 => by
      obtain ⟨z, e, h1⟩ := on_ofO h1
      exact ⟨rfl, v1, _, z, rfl, s1, e, r1.top s1, h1⟩⟩
end
end Gs

/-! GIs3: isinstance(x, (T, U, V)). -/
namespace Gs
open PySem PySem.Spec PyProof.Rows L2
def gIsi3 (n m l : String) : B1 := fun d => (tyN d).map fun t => .bl (isTy t n || isTy t m || isTy t l)
section
variable {X : Cx} {C : Cc} {pos : Pos} {a : Expr} {fa : E}
theorem se_isi3 {pf pn pm pl pt : Pos} {kt : Nat} {n m l : String} {nx mx lx : Str} (ha : SE X C a fa) (hg : Gl X "isinstance") (hm : X.mg "isinstance" = none) (hgn : Gl X nx) (hmn : X.mg nx = none) (hv : bootBuiltins nx = some (.type n)) (hgm : Gl X mx) (hmm : X.mg mx = none) (hvm : bootBuiltins mx = some (.type m)) (hgl : Gl X lx) (hml : X.mg lx = none) (hvl : bootBuiltins lx = some (.type l)) (hk : okTy n = true := by decide +kernel) (hk2 : okTy m = true := by decide +kernel) (hk3 : okTy l = true := by decide +kernel)
    (hn : nx ≠ "__name__" := by decide) (hd : (nx == ("__debug__" : Str)) = false := by decide) (hn2 : mx ≠ "__name__" := by decide) (hd2 : (mx == ("__debug__" : Str)) = false := by decide) (hn3 : lx ≠ "__name__" := by decide) (hd3 : (lx == ("__debug__" : Str)) = false := by decide) (hvi : bootBuiltins "isinstance" = some (.builtin "isinstance") := by decide +kernel)
    (hs : starEach [a, .Tuple [.Name nx pn, .Name mx pm, .Name lx pl] kt pt] X.env = (false, eval a X.env) :: starEach [.Tuple [.Name nx pn, .Name mx pm, .Name lx pl] kt pt] X.env := by rfl) (hpl : (backTo pos (starEach [.Tuple [.Name nx pn, .Name mx pm, .Name lx pl] kt pt] X.env)).any (·.1) = false := by rfl)
    (hs2 : starEach [.Tuple [.Name nx pn, .Name mx pm, .Name lx pl] kt pt] X.env = (false, eval (.Tuple [.Name nx pn, .Name mx pm, .Name lx pl] kt pt) X.env) :: starEach [] X.env := by rfl)
    (hs3 : starEach [.Name nx pn, .Name mx pm, .Name lx pl] X.env = (false, eval (.Name nx pn) X.env) :: starEach [.Name mx pm, .Name lx pl] X.env := by rfl) (hs4 : starEach [.Name mx pm, .Name lx pl] X.env = (false, eval (.Name mx pm) X.env) :: starEach [.Name lx pl] X.env := by rfl) (hs5 : starEach [.Name lx pl] X.env = (false, eval (.Name lx pl) X.env) :: starEach [] X.env := by rfl) :
    SE X C (.Call (.Name "isinstance" pf) [a, .Tuple [.Name nx pn, .Name mx pm, .Name lx pl] kt pt] [] pos) (eUn (gIsi3 n m l) fa) :=
  pe_weak (pe_callB call_isiT hg hm hvi (pa_cons ha (pa_cons (pe_tup (pa_cons (pe_bltn (v := .ty n) hgn hmn hv rfl hn hd) (pa_cons (pe_bltn (v := .ty m) hgm hmm hvm rfl hn2 hd2) (pa_cons (pe_bltn (v := .ty l) hgl hml hvl rfl hn3 hd3) pa_nil hs5) hs4) hs3)) pa_nil hs2) hs) (by decide) (by decide) hs hpl) fun σ H Q h => by
    obtain ⟨δ, v8, re, eH, h1⟩ := lift_un h
    refine ⟨δ, v8, re, eH, on_mono h1 fun d v v1 l1 s1 r1 h2 => ?_⟩
    obtain ⟨v2, dx, d2, eH2, sr, e, r2, h2⟩ := h2
    rw [← eH2]
    unfold gIsi3 at e
    cases q : tyN dx with
    | none => rw [q] at e; exact nomatch e
    | some t =>
      rw [q] at e
      simp only [Option.map_some, Option.some.injEq] at e
      subst e
      have z : kitB t n = some (isTy t n) := of_decide_eq_true (List.all_eq_true.mp hk t (tyN_mem q))
      have z2 : kitB t m = some (isTy t m) := of_decide_eq_true (List.all_eq_true.mp hk2 t (tyN_mem q))
      have z3 : kitB t l = some (isTy t l) := of_decide_eq_true (List.all_eq_true.mp hk3 t (tyN_mem q))
      refine ⟨by show 3 ≤ sizeLine; decide, fun c hc => ?_⟩
      obtain ⟨l9, s9⟩ := more_ok sr (same_new hc (.tup [V.ty n, V.ty m, V.ty l]))
      have ty : TyX X.K (upd v2.H c (.tup [V.ty n, V.ty m, V.ty l])) v (.type t) := (r2.more l9 rfl (same_new hc _)).tyx s9 q
      refine ⟨v, c, [.ty n, .ty m, .ty l], .type t, [.type n, .type m, .type l], isTy t n || isTy t m || isTy t l, rfl, upd_same, .cons (.ty n) (.cons (.ty m) (.cons (.ty l) .nil)), ty, ?_, h2 _ _ l9 s9 rfl (.bl _)⟩
      rw [Bool.or_assoc]
      refine kitAny_cons (kit_ty z) (fun b1 => ?_) (fun b1 => ?_)
      · rw [b1, Bool.false_or]
        refine kitAny_cons (kit_ty z2) (fun b2 => ?_) (fun b2 => ?_)
        · rw [b2, Bool.false_or]
          exact kitAny_cons (kit_ty z3) (fun b3 => by rw [b3]; exact kitAny_nil) (fun b3 => b3)
        · rw [b2, Bool.true_or]
      · rw [b1, Bool.true_or]
end
@[simp] theorem v_isi3 (n m l : String) (d : D) : gIsi3 n m l d = (tyN d).map fun t => .bl (isTy t n || isTy t m || isTy t l) := id rfl
end Gs

/-! GNo: what holds no function that was made in a def keeps so. -/
namespace Gs
open PySem L2
abbrev Nd (d : D) : Prop := noc d = true
abbrev Nl (ds : List D) : Prop := nocL ds = true
abbrev Ns (s : Sto) : Prop := nocS s = true
theorem Nl_iff {xs : List D} : Nl xs ↔ ∀ x ∈ xs, Nd x := by rw [Nl, nocL_all]; exact List.all_eq_true
theorem Nl.nil : Nl [] := rfl
theorem Nl.mem {xs : List D} (h : Nl xs) {x : D} (m : x ∈ xs) : Nd x := Nl_iff.mp h x m
theorem Nl.of {xs : List D} (h : ∀ x ∈ xs, Nd x) : Nl xs := Nl_iff.mpr h
theorem Nl.cons {x : D} {xs : List D} (h : Nd x) (r : Nl xs) : Nl (x :: xs) := by simp only [Nl, nocL, Bool.and_eq_true]; exact ⟨h, r⟩
theorem Nl.head {x : D} {xs : List D} (h : Nl (x :: xs)) : Nd x := h.mem (by simp)
theorem Nl.tail {x : D} {xs : List D} (h : Nl (x :: xs)) : Nl xs := Nl.of fun y m => h.mem (by simp [m])
theorem Nl.app {xs ys : List D} (h : Nl xs) (r : Nl ys) : Nl (xs ++ ys) := Nl.of fun x m => (List.mem_append.mp m).elim (fun m => h.mem m) fun m => r.mem m
theorem Nl.sub {xs ys : List D} (h : Nl xs) (m : ∀ x ∈ ys, x ∈ xs) : Nl ys := Nl.of fun x k => h.mem (m x k)
theorem Nl.map {α : Type} {f : α → D} {l : List α} (h : ∀ x ∈ l, Nd (f x)) : Nl (l.map f) := Nl.of fun y m => by obtain ⟨x, hx, rfl⟩ := List.mem_map.mp m; exact h x hx
theorem Ns_iff {s : Sto} : Ns s ↔ ∀ o ∈ s, nocO o = true := List.all_eq_true
theorem Ns.get {s : Sto} (h : Ns s) {i : Nat} {o : O} (e : s[i]? = some o) : nocO o = true := Ns_iff.mp h o (List.mem_of_getElem? e)
theorem Ns.app {s g : Sto} (h : Ns s) (k : Ns g) : Ns (s ++ g) := Ns_iff.mpr fun o m => (List.mem_append.mp m).elim (Ns_iff.mp h o) (Ns_iff.mp k o)
theorem Ns.left {s g : Sto} (h : Ns (s ++ g)) : Ns s := Ns_iff.mpr fun o m => Ns_iff.mp h o (List.mem_append_left _ m)
theorem Ns.one {s : Sto} {o : O} (h : Ns s) (k : nocO o = true) : Ns (s ++ [o]) := h.app (Ns_iff.mpr fun x m => by simp at m; subst m; exact k)
theorem Ns.set {s : Sto} {i : Nat} {o : O} (h : Ns s) (k : nocO o = true) : Ns (s.set i o) := Ns_iff.mpr fun x m => by
  rcases List.mem_or_eq_of_mem_set m with m | rfl
  · exact Ns_iff.mp h x m
  · exact k
theorem Nd.lst {xs : List D} (h : Nl xs) : Nd (.lst xs) := h
theorem Nd.tup {xs : List D} (h : Nl xs) : Nd (.tup xs) := h
theorem Nd.unl {xs : List D} (h : Nd (.lst xs)) : Nl xs := h
theorem Nd.unt {xs : List D} (h : Nd (.tup xs)) : Nl xs := h
def nocX (e : Ex) : Bool := nocL (e.fs.map (·.2))
/-- what is told, and the store -/
def NR {α : Type} (φ : α → Prop) (r : R α) : Prop := match r with
  | .ok a s => φ a ∧ Ns s
  | .exc e s => nocX e = true ∧ Ns s
  | .stk => True
theorem NR.bind {α β : Type} {φ : α → Prop} {ψ : β → Prop} {r : R α} {k : α → Sto → R β} (h : NR φ r) (hk : ∀ a s, φ a → Ns s → NR ψ (k a s)) : NR ψ (r.bind k) := by
  cases r with
  | ok a s => exact hk a s h.1 h.2
  | exc e s => exact h
  | stk => trivial
theorem NR.ofO {α : Type} {φ : α → Prop} {o : Option α} {s : Sto} (hs : Ns s) (h : ∀ a, o = some a → φ a) : NR φ (R.ofO o s) := by
  cases o with
  | none => trivial
  | some a => exact ⟨h a rfl, hs⟩
/-- the slots, but for those at c -/
def NSl (c : List Nat) (δ : Sl) : Prop := ∀ (i : Nat) (d : D), δ[i]? = some (some d) → i ∉ c → Nd d
theorem NSl.set {c : List Nat} {δ : Sl} (h : NSl c δ) {i : Nat} {d : D} (k : Nd d) : NSl c (δ.set i (some d)) := fun j e hj hc => by
  by_cases z : i = j
  · subst z
    have hi : i < δ.length := by have := (List.getElem?_eq_some_iff.mp hj).1; simpa using this
    rw [List.getElem?_set_self hi] at hj
    cases hj
    exact k
  · rw [List.getElem?_set_ne z] at hj
    exact h j e hj hc
theorem NSl.unset {c : List Nat} {δ : Sl} (h : NSl c δ) {i : Nat} : NSl c (δ.set i none) := fun j e hj hc => by
  by_cases z : i = j
  · subst z
    have hi : i < δ.length := by have := (List.getElem?_eq_some_iff.mp hj).1; simpa using this
    rw [List.getElem?_set_self hi] at hj
    cases hj
  · rw [List.getElem?_set_ne z] at hj
    exact h j e hj hc
theorem NSl.wipe {c : List Nat} {δ : Sl} (h : NSl c δ) : ∀ vs : List Nat, NSl c (wipeD δ vs)
  | [] => h
  | v :: vs => (NSl.wipe h vs).unset
theorem NSl.start {ds : List D} {n : Nat} (h : Nl ds) : NSl [] (ds.map some ++ List.replicate n none) := fun i d hi _ => by
  by_cases z : i < ds.length
  · rw [List.getElem?_append_left (by simpa using z), List.getElem?_map, List.getElem?_eq_getElem z] at hi
    cases hi
    exact h.mem (List.getElem_mem _)
  · rw [List.getElem?_append_right (by simpa using z), List.getElem?_replicate] at hi
    split at hi <;> cases hi
abbrev NE (c : List Nat) (f : Sl → Sto → R D) : Prop := ∀ δ s, NSl c δ → Ns s → NR Nd (f δ s)
abbrev NA (c : List Nat) (f : Sl → Sto → R (List D)) : Prop := ∀ δ s, NSl c δ → Ns s → NR Nl (f δ s)
abbrev NTe (c : List Nat) (f : Sl → Sto → R Bool) : Prop := ∀ δ s, NSl c δ → Ns s → NR (fun _ => True) (f δ s)
abbrev NO (c : List Nat) (f : Os) : Prop := ∀ δ s, NSl c δ → Ns s → NR (fun _ => True) (f δ s)
def NQ (c : List Nat) (r : RS) : Prop := match r with
  | .nx δ s => NSl c δ ∧ Ns s
  | .bk δ s => NSl c δ ∧ Ns s
  | .ct δ s => NSl c δ ∧ Ns s
  | .rt d s => Nd d ∧ Ns s
  | .exc e δ s => nocX e = true ∧ NSl c δ ∧ Ns s
  | .stk => True
abbrev NS (c : List Nat) (f : S) : Prop := ∀ δ s, NSl c δ → Ns s → NQ c (f δ s)
abbrev NF (F : List D → Sto → R D) : Prop := ∀ ds s, Nl ds → Ns s → NR Nd (F ds s)
theorem NQ.bind {α : Type} {φ : α → Prop} {c : List Nat} {r : R α} {δ : Sl} {k : α → Sto → RS} (hd : NSl c δ) (h : NR φ r) (hk : ∀ a s, φ a → Ns s → NQ c (k a s)) : NQ c (sBind r δ k) := by
  cases r with
  | ok a s => exact hk a s h.1 h.2
  | exc e s => exact ⟨h.1, hd, h.2⟩
  | stk => trivial
theorem rsv_nd {s : Sto} {d : D} (hs : Ns s) (h : Nd d) : Nd (rsv s d) := by
  cases d with
  | ob i =>
    unfold rsv
    dsimp only
    split
    · rename_i xs e
      have := hs.get e
      exact this
    · rename_i kvs e
      have := hs.get e
      exact this
    · exact h
  | _ => exact h
theorem lsO_nl {s : Sto} {d : D} {xs : List D} (hs : Ns s) (h : lsO s d = some xs) : Nl xs := by
  unfold lsO at h
  split at h
  · split at h
    · rename_i e
      cases h
      exact hs.get e
    · exact nomatch h
  · exact nomatch h
theorem stO_ns {s : Sto} {d : D} {xs : List D} (hs : Ns s) (h : Nl xs) : Ns (stO s d xs) := by
  unfold stO
  split
  · exact hs.set h
  · exact hs
theorem inO_nl {s : Sto} {d : D} {c : String} {fs : List (Str × D)} (hs : Ns s) (h : inO s d = some (c, fs)) : Nl (fs.map (·.2)) := by
  unfold inO at h
  split at h
  · split at h
    · rename_i e
      cases h
      exact hs.get e
    · exact nomatch h
  · exact nomatch h
theorem lookup_nd {κ : Type} [BEq κ] {x : κ} {d : D} : ∀ {l : List (κ × D)}, Nl (l.map (·.2)) → l.lookup x = some d → Nd d
  | [], _, h => nomatch h
  | (y, e) :: l, n, h => by
    rw [List.lookup_cons] at h
    split at h
    · cases h; exact n.head
    · exact lookup_nd (l := l) n.tail h
theorem atI_nd {xs : List D} {i : Int} {d : D} (h : Nl xs) (e : atI xs i = some d) : Nd d := by
  unfold atI at e
  cases q : ixN xs.length i with
  | none => rw [q] at e; exact nomatch e
  | some j => rw [q] at e; exact h.mem (List.mem_of_getElem? e)
section
variable {c : List Nat} {δ : Sl} {s : Sto} {f g a b : E} {r : As} {fr : Fr} {t u : T}
/-! ### expressions -/
theorem ne_var {i : Nat} (h : i ∉ c) : NE c (eV i) := fun δ s hd hs => by
  rw [v_eV]
  split
  · rename_i d e; exact ⟨hd i d e h, hs⟩
  · trivial
theorem ne_v {i : Nat} : NE [] (eV i) := ne_var (fun h => nomatch h)
theorem ne_con {d : D} (h : Nd d) : NE c (eC d) := fun δ s _ hs => ⟨h, hs⟩
theorem ne_stk : NE c eStk := fun _ _ _ _ => trivial
abbrev NB (g : B2) : Prop := ∀ x y d, Nd x → Nd y → g x y = some d → Nd d
abbrev NU (g : B1) : Prop := ∀ x d, Nd x → g x = some d → Nd d
abbrev NG (g : BA) : Prop := ∀ xs d, Nl xs → g xs = some d → Nd d
theorem ne_bin {op : B2} (ho : NB op) (ha : NE c a) (hb : NE c b) : NE c (eBin op a b) := fun δ s hd hs => (ha δ s hd hs).bind fun x s1 hx h1 => (hb δ s1 hd h1).bind fun y s2 hy h2 => .ofO h2 fun d e => ho _ _ d (rsv_nd h2 hx) (rsv_nd h2 hy) e
theorem ne_un {op : B1} (ho : NU op) (ha : NE c a) : NE c (eUn op a) := fun δ s hd hs => (ha δ s hd hs).bind fun x s1 hx h1 => .ofO h1 fun d e => ho _ d (rsv_nd h1 hx) e
theorem ne_fn {op : BA} (ho : NG op) (ha : NA c r) : NE c (eFn op r) := fun δ s hd hs => (ha δ s hd hs).bind fun xs s1 hx h1 => .ofO h1 fun d e => ho _ d (Nl.of fun y m => by obtain ⟨x, hm, rfl⟩ := List.mem_map.mp m; exact rsv_nd h1 (hx.mem hm)) e
theorem ne_call {F : List D → Sto → R D} (hF : NF F) (ha : NA c r) : NE c (eCall F r) := fun δ s hd hs => (ha δ s hd hs).bind fun xs s1 hx h1 => hF xs s1 hx h1
theorem ne_callD {F : List D → Sto → R D} {dd : List D} (hF : NF F) (hdd : Nl dd) (ha : NA c r) : NE c (eCallD F r dd) := fun δ s hd hs => (ha δ s hd hs).bind fun xs s1 hx h1 => hF _ s1 (hx.app hdd) h1
theorem ne_and (ha : NE c a) (hb : NE c b) : NE c (eAn a b) := fun δ s hd hs => (ha δ s hd hs).bind fun x s1 hx h1 => by
  cases x <;> first | exact trivial | skip
  rename_i k
  cases k
  · exact ⟨rfl, h1⟩
  · exact hb δ s1 hd h1
theorem ne_or (ha : NE c a) (hb : NE c b) : NE c (eOr a b) := fun δ s hd hs => (ha δ s hd hs).bind fun x s1 hx h1 => by
  cases x <;> first | exact trivial | skip
  rename_i k
  cases k
  · exact hb δ s1 hd h1
  · exact ⟨rfl, h1⟩
theorem ne_nt (ha : NE c a) : NE c (eNt a) := fun δ s hd hs => (ha δ s hd hs).bind fun x s1 hx h1 => by
  cases x <;> first | exact trivial | exact ⟨rfl, h1⟩
theorem ne_if (ht : NTe c t) (ha : NE c a) (hb : NE c b) : NE c (eIf t a b) := fun δ s hd hs => (ht δ s hd hs).bind fun k s1 _ h1 => by
  cases k
  · exact hb δ s1 hd h1
  · exact ha δ s1 hd h1
theorem ne_chain {g g' : B2} {a b e : E} (hg : NB g) (hg' : NB g') (ha : NE c a) (hb : NE c b) (he : NE c e) : NE c (eChain g g' a b e) := fun δ s hd hs => (ha δ s hd hs).bind fun x s1 hx h1 => (hb δ s1 hd h1).bind fun y s2 hy h2 => (NR.ofO (φ := fun _ => True) h2 fun _ _ => trivial).bind fun z s3 _ h3 => by
  cases z <;> first | exact trivial | skip
  rename_i k
  cases k
  · exact ⟨rfl, h3⟩
  · exact (he δ s3 hd h3).bind fun w s4 hw h4 => .ofO h4 fun d e => hg' _ _ d (rsv_nd h4 hy) (rsv_nd h4 hw) e
theorem na_nil : NA c aNil := fun _ _ _ hs => ⟨rfl, hs⟩
theorem na_cons (ha : NE c f) (hr : NA c r) : NA c (aCons f r) := fun δ s hd hs => (ha δ s hd hs).bind fun x s1 hx h1 => (hr δ s1 hd h1).bind fun xs s2 hxs h2 => ⟨Nl.cons hx hxs, h2⟩
theorem ne_tup (h : NA c r) : NE c (eTup r) := fun δ s hd hs => (h δ s hd hs).bind fun xs s1 hx h1 => by
  split
  · exact ⟨hx, h1⟩
  · trivial
theorem ne_fz (h : NA c fr) : NE c (eFz fr) := fun δ s hd hs => (h δ s hd hs).bind fun xs s1 hx h1 => ⟨hx, h1⟩
theorem ne_nw (h : NA c fr) : NE c (eNw fr) := fun δ s hd hs => (h δ s hd hs).bind fun xs s1 hx h1 => ⟨rfl, h1.one hx⟩
theorem ne_frz (h : NE c f) : NE c (eFrz f) := fun δ s hd hs => (h δ s hd hs).bind fun d s1 hx h1 => by
  show Nd (frzD s1 d).1 ∧ Ns (frzD s1 d).2
  unfold frzD
  split
  · split
    · rename_i e
      exact ⟨h1.get e, h1.set rfl⟩
    · exact ⟨hx, h1⟩
  · exact ⟨hx, h1⟩
theorem signs_nl (x : Str) : Nl (signs x) := by
  unfold signs
  exact Nl.of fun y m => by obtain ⟨z, _, rfl⟩ := List.mem_map.mp m; rfl
theorem na_lst (h : NA c r) : NA c (fLst r) := fun δ s hd hs => (h δ s hd hs).bind fun xs s1 hx h1 => by
  split
  · exact ⟨hx, h1⟩
  · trivial
theorem na_list (h : NE c f) : NA c (fList f) := fun δ s hd hs => (h δ s hd hs).bind fun d s1 hx h1 => by
  have q := rsv_nd h1 hx
  split
  · rename_i e; rw [e] at q; exact ⟨q, h1⟩
  · rename_i e; rw [e] at q; exact ⟨q, h1⟩
  · split
    · exact ⟨signs_nl _, h1⟩
    · trivial
  · trivial
theorem na_rev (h : NE c f) : NA c (fRev f) := fun δ s hd hs => (h δ s hd hs).bind fun d s1 hx h1 => by
  have q := rsv_nd h1 hx
  split
  · rename_i e; rw [e] at q; exact ⟨Nl.sub q fun x m => by simpa using m, h1⟩
  · trivial
theorem na_rep {fb : E} (h : NA c fr) (hb : NE c fb) : NA c (fRep fr fb) := fun δ s hd hs => (h δ s hd hs).bind fun xs s1 hx h1 => (hb δ s1 hd h1).bind fun y s2 hy h2 => by
  split
  · split
    · refine ⟨Nl.sub hx fun x m => ?_, h2⟩
      obtain ⟨l, hl, hm⟩ := List.mem_flatten.mp m
      rw [(List.mem_replicate.mp hl).2] at hm
      exact hm
    · trivial
  · trivial
theorem ne_sl {lo hi : Os} (h : NE c a) (hl : NO c lo) (hh : NO c hi) : NE c (eSl a lo hi) := fun δ s hd hs => (h δ s hd hs).bind fun x s1 hx h1 => (hl δ s1 hd h1).bind fun l s2 _ h2 => (hh δ s2 hd h2).bind fun u s3 _ h3 => .ofO h3 fun d e => by
  have q := rsv_nd h3 hx
  have cut : ∀ xs : List D, Nl xs → Nl (cutD xs l u) := fun xs h => Nl.sub h fun x m => by
    unfold cutD at m
    exact List.mem_of_mem_drop (List.mem_of_mem_take m)
  unfold gSl at e
  split at e
  · rename_i xs e2; rw [e2] at q; cases e; exact cut _ q
  · rename_i xs e2; rw [e2] at q; cases e; exact cut _ q
  · split at e
    · cases e; rfl
    · exact nomatch e
  · exact nomatch e
theorem no_none : NO c oNone := fun _ _ _ hs => ⟨trivial, hs⟩
theorem no_some (h : NE c f) : NO c (oSome f) := fun δ s hd hs => (h δ s hd hs).bind fun d s1 hx h1 => by
  split
  · exact ⟨trivial, h1⟩
  · trivial
theorem ne_m1 {g : D → List D → Option D} {o : E} (hg : ∀ x y d, g x y = some d → Nd d) (ho : NE c o) (ha : NE c a) : NE c (eM1 g o a) := fun δ s hd hs => (ho δ s hd hs).bind fun x s1 hx h1 => by
  split
  · exact (ha δ s1 hd h1).bind fun y s2 hy h2 => .ofO h2 fun d e => hg _ _ d e
  · trivial
theorem ne_bits (h : NE c f) : NE c (eBits f) := fun δ s hd hs => (h δ s hd hs).bind fun d s1 hx h1 => by
  split <;> first | exact ⟨rfl, h1⟩ | trivial | (split <;> first | exact ⟨rfl, h1⟩ | trivial)
/-! ### tests -/
theorem nt_val (h : NE c f) : NTe c (tV f) := fun δ s hd hs => (h δ s hd hs).bind fun d s1 hx h1 => by
  split
  · exact ⟨trivial, h1⟩
  · trivial
theorem nt_nt (h : NTe c t) : NTe c (tNt t) := fun δ s hd hs => (h δ s hd hs).bind fun d s1 _ h1 => ⟨trivial, h1⟩
theorem nt_and (h : NTe c t) (k : NTe c u) : NTe c (tAn t u) := fun δ s hd hs => (h δ s hd hs).bind fun d s1 _ h1 => by
  cases d
  · exact ⟨trivial, h1⟩
  · exact k δ s1 hd h1
theorem nt_or (h : NTe c t) (k : NTe c u) : NTe c (tOrr t u) := fun δ s hd hs => (h δ s hd hs).bind fun d s1 _ h1 => by
  cases d
  · exact k δ s1 hd h1
  · exact ⟨trivial, h1⟩
theorem nt_true : NTe c tTrue := fun _ _ _ hs => ⟨trivial, hs⟩
end
/-! ### patterns, comprehensions, loops -/
mutual
theorem bindP_n {c : List Nat} : ∀ {p : Pt} {d : D} {δ δ' : Sl}, bindP p d δ = some δ' → Nd d → NSl c δ → NSl c δ'
  | .nm i, d, δ, δ', h, n, hd => by simp only [bindP, Option.some.injEq] at h; subst h; exact hd.set n
  | .tp ps, .tup ds, δ, δ', h, n, hd => by simp only [bindP] at h; exact bindPs_n h n hd
  | .tp ps, .lst ds, δ, δ', h, n, hd => by simp only [bindP] at h; exact bindPs_n h n hd
  | .tp ps, .non, _, _, h, _, _ => by simp [bindP] at h
  | .tp ps, .bl _, _, _, h, _, _ => by simp [bindP] at h
  | .tp ps, .int _, _, _, h, _, _ => by simp [bindP] at h
  | .tp ps, .str _, _, _, h, _, _ => by simp [bindP] at h
  | .tp ps, .dct _ _, _, _, h, _, _ => by simp [bindP] at h
  | .tp ps, .ob _, _, _, h, _, _ => by simp [bindP] at h
  | .tp ps, .fn _, _, _, h, _, _ => by simp [bindP] at h
  | .tp ps, .ev _ _ _, _, _, h, _, _ => by simp [bindP] at h
  | .tp ps, .clo _ _, _, _, h, _, _ => by simp [bindP] at h
theorem bindPs_n {c : List Nat} : ∀ {ps : List Pt} {ds : List D} {δ δ' : Sl}, bindPs ps ds δ = some δ' → Nl ds → NSl c δ → NSl c δ'
  | [], [], δ, δ', h, _, hd => by simp only [bindPs, Option.some.injEq] at h; subst h; exact hd
  | [], _ :: _, _, _, h, _, _ => by simp [bindPs] at h
  | _ :: _, [], _, _, h, _, _ => by simp [bindPs] at h
  | p :: ps, d :: ds, δ, δ', h, n, hd => by
    simp only [bindPs] at h
    cases e : bindP p d δ with
    | none => rw [e] at h; exact nomatch h
    | some δ1 => rw [e] at h; exact bindPs_n h n.tail (bindP_n e n.head hd)
end
section
variable {c : List Nat} {p : Pt} {e : E} {t : T} {body : S}
theorem lcD_n (ht : NTe c t) (he : NE c e) : ∀ (xs : List D) (δ : Sl) (s : Sto), NSl c δ → Nl xs → Ns s → NR Nl (lcD p t e δ xs s)
  | [], δ, s, _, _, hs => ⟨rfl, hs⟩
  | x :: xs, δ, s, hd, hx, hs => by
    simp only [lcD]
    cases q : bindP p x δ with
    | none => trivial
    | some δ1 =>
      have h1 := bindP_n q hx.head hd
      have z := ht δ1 s h1 hs
      simp only
      cases q2 : t δ1 s with
      | stk => trivial
      | exc e2 s2 => trivial
      | ok k s1 =>
        rw [q2] at z
        cases k with
        | false => exact lcD_n ht he xs δ s1 hd hx.tail z.2
        | true =>
          have z2 := he δ1 s1 h1 z.2
          simp only
          cases q3 : e δ1 s1 with
          | stk => trivial
          | exc e2 s2 => trivial
          | ok y s2 =>
            rw [q3] at z2
            have z3 := lcD_n ht he xs δ s2 hd hx.tail z2.2
            simp only
            cases q4 : lcD p t e δ xs s2 with
            | stk => trivial
            | exc e2 s3 => trivial
            | ok ys s3 => rw [q4] at z3; exact ⟨Nl.cons z2.1 z3.1, z3.2⟩
theorem na_lc {it : As} {vs : List Nat} (hi : NA c it) (ht : NTe c t) (he : NE c e) : NA c (fLc it vs p t e) := fun δ s hd hs => (hi δ s hd hs).bind fun xs s1 hx h1 => (lcD_n ht he xs _ s1 (hd.wipe vs) hx h1).bind fun ys s2 hy h2 => by
  split
  · exact ⟨hy, h2⟩
  · trivial
theorem forD_n (hb : NS c body) : ∀ (xs : List D) (δ : Sl) (s : Sto), NSl c δ → Nl xs → Ns s → NQ c (forD p body xs δ s)
  | [], δ, s, hd, _, hs => ⟨hd, hs⟩
  | x :: xs, δ, s, hd, hx, hs => by
    simp only [forD]
    cases q : bindP p x δ with
    | none => trivial
    | some δ1 =>
      have z := hb δ1 s (bindP_n q hx.head hd) hs
      simp only
      cases q2 : body δ1 s with
      | nx δ2 s2 => rw [q2] at z; exact forD_n hb xs δ2 s2 z.1 hx.tail z.2
      | ct δ2 s2 => rw [q2] at z; exact forD_n hb xs δ2 s2 z.1 hx.tail z.2
      | bk δ2 s2 => rw [q2] at z; exact z
      | rt d s2 => rw [q2] at z; exact z
      | exc e2 δ2 s2 => rw [q2] at z; exact z
      | stk => trivial
theorem ns_for {it : As} (hi : NA c it) (hb : NS c body) : NS c (sFor it p body) := fun δ s hd hs => NQ.bind hd (hi δ s hd hs) fun xs s1 hx h1 => forD_n hb xs δ s1 hd hx h1
theorem ns_while (ht : NTe c t) (hb : NS c body) : ∀ n, NS c (whileD t body n)
  | 0 => fun _ _ _ _ => trivial
  | n + 1 => fun δ s hd hs => by
    have z := ht δ s hd hs
    simp only [whileD]
    cases q : t δ s with
    | stk => trivial
    | exc e s1 => rw [q] at z; exact ⟨z.1, hd, z.2⟩
    | ok k s1 =>
      rw [q] at z
      cases k with
      | false => exact ⟨hd, z.2⟩
      | true =>
        have z2 := hb δ s1 hd z.2
        simp only
        cases q2 : body δ s1 with
        | nx δ2 s2 => rw [q2] at z2; exact ns_while ht hb n δ2 s2 z2.1 z2.2
        | ct δ2 s2 => rw [q2] at z2; exact ns_while ht hb n δ2 s2 z2.1 z2.2
        | bk δ2 s2 => rw [q2] at z2; exact z2
        | rt d s2 => rw [q2] at z2; exact z2
        | exc e2 δ2 s2 => rw [q2] at z2; exact z2
        | stk => trivial
end
/-! ### statements -/
section
variable {c : List Nat} {e o a b k : E} {t : T} {f g : S} {r : As}
theorem ns_nx : NS c sNx := fun _ _ hd hs => ⟨hd, hs⟩
theorem ns_bk : NS c sBk := fun _ _ hd hs => ⟨hd, hs⟩
theorem ns_ct : NS c sCt := fun _ _ hd hs => ⟨hd, hs⟩
theorem ns_stk : NS c sStk := fun _ _ _ _ => trivial
theorem ns_seq (hf : NS c f) (hg : NS c g) : NS c (sSeq f g) := fun δ s hd hs => by
  have z := hf δ s hd hs
  rw [v_sSeq]
  cases q : f δ s with
  | nx δ2 s2 => rw [q] at z; exact hg δ2 s2 z.1 z.2
  | ct δ2 s2 => rw [q] at z; exact z
  | bk δ2 s2 => rw [q] at z; exact z
  | rt d s2 => rw [q] at z; exact z
  | exc e2 δ2 s2 => rw [q] at z; exact z
  | stk => trivial
theorem ns_ret (h : NE c e) : NS c (sRet e) := fun δ s hd hs => NQ.bind hd (h δ s hd hs) fun d s1 hx h1 => ⟨hx, h1⟩
theorem ns_retN : NS c sRetN := fun _ _ _ hs => ⟨rfl, hs⟩
theorem ns_if (ht : NTe c t) (hf : NS c f) (hg : NS c g) : NS c (sIf t f g) := fun δ s hd hs => NQ.bind hd (ht δ s hd hs) fun k s1 _ h1 => by
  cases k
  · exact hg δ s1 hd h1
  · exact hf δ s1 hd h1
theorem ns_set {i : Nat} (h : NE c e) : NS c (sSet i e) := fun δ s hd hs => NQ.bind hd (h δ s hd hs) fun d s1 hx h1 => ⟨hd.set hx, h1⟩
theorem ns_asg {p : Pt} (h : NE c e) : NS c (sAsg p e) := fun δ s hd hs => NQ.bind hd (h δ s hd hs) fun d s1 hx h1 => by
  rw [v_sBindP]
  split
  · rename_i q; exact ⟨bindP_n q hx hd, h1⟩
  · trivial
theorem ns_aug {i : Nat} {op : B2} (hi : i ∉ c) (ho : NB op) (h : NE c e) : NS c (sAug i op e) := fun δ s hd hs => by
  rw [v_sAug]
  split
  · rename_i x q
    refine NQ.bind hd (h δ s hd hs) fun y s1 hy h1 => ?_
    split
    · rename_i z q2
      exact ⟨hd.set (ho _ _ _ (rsv_nd h1 (hd i x q hi)) (rsv_nd h1 hy) q2), h1⟩
    · trivial
  · trivial
theorem ns_drop (h : NE c e) : NS c (sDrop e) := fun δ s hd hs => NQ.bind hd (h δ s hd hs) fun d s1 hx h1 => ⟨hd, h1⟩
theorem ns_raise {cn : String} : NS c (sRaise cn) := fun _ _ hd hs => ⟨rfl, hd, hs⟩
theorem frzD_n {s : Sto} {d : D} (hs : Ns s) (h : Nd d) : Nd (frzD s d).1 ∧ Ns (frzD s d).2 := by
  unfold frzD
  split
  · split
    · rename_i e
      exact ⟨hs.get e, hs.set rfl⟩
    · exact ⟨h, hs⟩
  · exact ⟨h, hs⟩
theorem ns_frz {i : Nat} (hi : i ∉ c) (h : NS c f) : NS c (sFrz i f) := fun δ s hd hs => by
  rw [v_sFrz]
  split
  · rename_i d q
    obtain ⟨h1, h2⟩ := frzD_n hs (hd i d q hi)
    exact h _ _ (hd.set h1) h2
  · exact h δ s hd hs
theorem ns_setIx (ho : NE c o) (hk : NE c b) (he : NE c e) : NS c (sSetIx o b e) := fun δ s hd hs => by
  rw [v_sSetIx]
  refine NQ.bind hd (he δ s hd hs) fun d s1 hx h1 => NQ.bind hd (ho δ s1 hd h1) fun x s2 _ h2 => NQ.bind hd (hk δ s2 hd h2) fun z s3 _ h3 => ?_
  split
  · rename_i xs i q _
    first
      | (split
         · exact ⟨hd, stO_ns h3 (Nl.of fun y m => (List.mem_or_eq_of_mem_set m).elim (fun m => (lsO_nl h3 q).mem m) fun m => m ▸ hx)⟩
         · trivial)
      | (split
         · exact ⟨hd, stO_ns h3 (Nl.of fun y m => (List.mem_or_eq_of_mem_set m).elim (fun m => (lsO_nl h3 q).mem m) fun m => m ▸ hx)⟩
         · exact trivial)
  · trivial
theorem ne_app (ho : NE c o) (ha : NE c a) : NE c (eApp o a) := fun δ s hd hs => (ho δ s hd hs).bind fun x s1 _ h1 => by
  split
  · refine (ha δ s1 hd h1).bind fun y s2 hy h2 => ?_
    split
    · rename_i xs q
      split
      · exact ⟨rfl, stO_ns h2 ((lsO_nl h2 q).app (Nl.cons hy Nl.nil))⟩
      · trivial
    · trivial
  · trivial
theorem ne_ext (ho : NE c o) (ha : NE c a) : NE c (eExt o a) := fun δ s hd hs => (ho δ s hd hs).bind fun x s1 _ h1 => by
  split
  · refine (ha δ s1 hd h1).bind fun y s2 hy h2 => ?_
    split
    · rename_i xs ys q q2
      have hy2 := rsv_nd h2 hy
      rw [q2] at hy2
      split
      · split
        · exact ⟨rfl, stO_ns h2 ((lsO_nl h2 q).app hy2)⟩
        · trivial
      · trivial
    · trivial
  · trivial
theorem ne_popAt (ho : NE c o) (ha : NE c a) : NE c (ePopAt o a) := fun δ s hd hs => by
  rw [v_ePopAt]
  refine (ho δ s hd hs).bind fun x s1 _ h1 => ?_
  split
  · refine (ha δ s1 hd h1).bind fun y s2 hy h2 => ?_
    split
    · rename_i xs i q
      have n := lsO_nl h2 q
      repeat' split
      all_goals first
        | trivial
        | exact ⟨n.mem (List.mem_of_getElem? (by assumption)), stO_ns h2 (Nl.sub n fun y m => List.mem_of_mem_eraseIdx m)⟩
    · trivial
  · trivial
theorem ne_pop (ho : NE c o) : NE c (ePop o) := fun δ s hd hs => (ho δ s hd hs).bind fun x s1 _ h1 => by
  split
  · rename_i xs q
    have n := lsO_nl h1 q
    split
    · rename_i d q2
      exact ⟨n.mem (List.mem_of_getElem? q2), stO_ns h1 (Nl.sub n fun y m => (List.dropLast_subset xs) m)⟩
    · trivial
  · trivial
theorem ne_ins (ho : NE c o) (ha : NE c a) (hb : NE c b) : NE c (eIns o a b) := fun δ s hd hs => (ho δ s hd hs).bind fun x s1 _ h1 => by
  split
  · refine (ha δ s1 hd h1).bind fun y s2 hy h2 => (hb δ s2 hd h2).bind fun z s3 hz h3 => ?_
    split
    · rename_i xs i q
      have n := lsO_nl h3 q
      split
      · exact ⟨rfl, stO_ns h3 (((Nl.sub n fun y m => List.mem_of_mem_take m).app (Nl.cons hz Nl.nil)).app (Nl.sub n fun y m => List.mem_of_mem_drop m))⟩
      · trivial
    · trivial
  · trivial
theorem ne_clr (ho : NE c o) : NE c (eClr o) := fun δ s hd hs => (ho δ s hd hs).bind fun x s1 _ h1 => by
  split
  · exact ⟨rfl, stO_ns h1 Nl.nil⟩
  · trivial
theorem ne_slS {lo hi st : Os} (h : NE c a) (hl : NO c lo) (hh : NO c hi) (ht : NO c st) : NE c (eSlS a lo hi st) := fun δ s hd hs => (h δ s hd hs).bind fun x s1 hx h1 => (hl δ s1 hd h1).bind fun l s2 _ h2 => (hh δ s2 hd h2).bind fun u s3 _ h3 => (ht δ s3 hd h3).bind fun w s4 _ h4 => by
  have q := rsv_nd h4 hx
  split
  · rename_i xs e
    rw [e] at q
    split
    · exact ⟨Nl.sub q fun y m => by
        obtain ⟨i, _, hi⟩ := List.mem_filterMap.mp m
        exact List.mem_of_getElem? hi, h4⟩
    · trivial
  · trivial
/-! ### instances -/
theorem putD_n {x : Str} {d : D} (hd : Nd d) : ∀ {fs : List (Str × D)}, Nl (fs.map (·.2)) → Nl ((putD x d fs).map (·.2))
  | [], _ => Nl.cons hd Nl.nil
  | (y, e) :: fs, h => by
    simp only [putD]
    split
    · exact Nl.cons hd h.tail
    · exact Nl.cons h.head (putD_n hd (fs := fs) h.tail)
theorem ne_at {cl : String → Bool} {x : Str} (ho : NE c o) : NE c (eAt cl x o) := fun δ s hd hs => (ho δ s hd hs).bind fun y s1 _ h1 => by
  split
  · rename_i q
    split
    · exact .ofO h1 fun d e => lookup_nd (inO_nl h1 q) e
    · trivial
  · trivial
theorem ns_setAt {cl : String → Bool} {x : Str} (ho : NE c o) (he : NE c e) : NS c (sSetAt cl x o e) := fun δ s hd hs => NQ.bind hd (he δ s hd hs) fun y s1 hy h1 => NQ.bind hd (ho δ s1 hd h1) fun z s2 _ h2 => by
  split
  · rename_i q
    split
    · exact ⟨hd, h2.set (by show nocL _ = true; exact putD_n hy (inO_nl h2 q))⟩
    · trivial
  · trivial
abbrev NM (M : Mt) : Prop := ∀ x F, M x = some F → NF F
theorem ne_meth {M : Mt} {m : Str} (hM : NM M) (ho : NE c o) (ha : NA c r) : NE c (eMeth M m o r) := fun δ s hd hs => (ho δ s hd hs).bind fun x s1 hx h1 => by
  split
  · split
    · split
      · rename_i q
        exact (ha δ s1 hd h1).bind fun ds s2 hds h2 => hM _ _ q _ s2 (Nl.cons hx hds) h2
      · trivial
    · trivial
  · trivial
theorem ne_make {cn : String} {F : List D → Sto → R D} (hF : NF F) (ha : NA c r) : NE c (eMake cn F r) := fun δ s hd hs => (ha δ s hd hs).bind fun ds s1 hds h1 => (hF _ _ (Nl.cons rfl hds) (h1.one rfl)).bind fun x s2 _ h2 => by
  split
  · exact ⟨rfl, h2⟩
  · trivial
/-! ### dicts -/
theorem dk_nl {s : Sto} {d : D} {kvs : List (Key × D)} (hs : Ns s) (hd : Nd d) (h : dkO s d = some kvs) : Nl (kvs.map (·.2)) := by
  unfold dkO at h
  split at h
  · split at h
    · rename_i e; cases h; exact hs.get e
    · rename_i e; cases h; exact hs.get e
    · exact nomatch h
  · cases h
    exact Nl.sub (xs := _) hd fun x m => by
      obtain ⟨⟨k, y⟩, h1, rfl⟩ := List.mem_map.mp m
      exact (List.of_mem_zip h1).2
  · exact nomatch h
theorem dt_nl {s : Sto} {d : D} {kvs : List (List Key × D)} (hs : Ns s) (h : dtO s d = some kvs) : Nl (kvs.map (·.2)) := by
  unfold dtO at h
  split at h
  · split at h
    · rename_i e; cases h; exact hs.get e
    · exact nomatch h
  · exact nomatch h
theorem valD_n {κ : Type} [DecidableEq κ] {kvs : List (κ × D)} {k : κ} {d : D} (h : Nl (kvs.map (·.2))) (e : valD kvs k = some d) : Nd d := by
  unfold valD at e
  cases q : kvs.find? (fun kv => decide (kv.1 = k)) with
  | none => rw [q] at e; exact nomatch e
  | some p =>
    rw [q] at e
    cases e
    exact h.mem (List.mem_map.mpr ⟨p, List.mem_of_find?_eq_some q, rfl⟩)
theorem putKD_n {κ : Type} [DecidableEq κ] {kvs : List (κ × D)} {k : κ} {d : D} (h : Nl (kvs.map (·.2))) (hd : Nd d) : Nl ((putKD kvs k d).map (·.2)) := by
  unfold putKD
  split
  · refine Nl.of fun x m => ?_
    obtain ⟨p, hp, rfl⟩ := List.mem_map.mp m
    obtain ⟨q, hq, e⟩ := List.mem_map.mp hp
    split at e
    · subst e; exact hd
    · subst e; exact h.mem (List.mem_map.mpr ⟨q, hq, rfl⟩)
  · rw [List.map_append]
    exact h.app (Nl.cons hd Nl.nil)
theorem ne_dnewK : NE c eDNewK := fun _ _ _ hs => ⟨rfl, hs.one rfl⟩
theorem ne_dnewT : NE c eDNewT := fun _ _ _ hs => ⟨rfl, hs.one rfl⟩
theorem pairsD_n : ∀ {xs : List D} {kvs : List (Key × D)}, Nl xs → pairsD xs = some kvs → Nl (kvs.map (·.2))
  | [], kvs, h, e => by
    cases e
    exact Nl.nil
  | x :: r, kvs, h, e => by
    unfold pairsD at e
    split at e
    · rename_i heq; exact nomatch heq
    · rename_i k d r' heq
      simp only [List.cons.injEq] at heq
      obtain ⟨h1, h2⟩ := heq
      subst h1
      subst h2
      split at e
      · rename_i k2 r2 q1 q2
        cases e
        have hx := h.head
        exact Nl.cons ((Nd.unt hx).mem (by simp)) (pairsD_n h.tail q2)
      · exact nomatch e
    · exact nomatch e
theorem mergeKD_n : ∀ {kvs acc : List (Key × D)}, Nl (acc.map (·.2)) → Nl (kvs.map (·.2)) → Nl ((mergeKD acc kvs).map (·.2))
  | [], acc, h, _ => h
  | kv :: kvs, acc, h, k => mergeKD_n (kvs := kvs) (acc := putKD acc kv.1 kv.2) (putKD_n h (Nl.head k)) (Nl.tail k)
theorem ne_dictP {a : E} (h : NE c a) : NE c (eDictP a) := fun δ s hd hs => (h δ s hd hs).bind fun x s1 hx h1 => by
  cases x with
  | lst xs =>
    show NR Nd (match pairsD xs with | some kvs => .ok (.ob s1.length) (s1 ++ [.dK (mergeKD [] kvs)]) | none => .stk)
    cases q : pairsD xs with
    | none => trivial
    | some kvs => exact ⟨rfl, h1.one (by show nocL _ = true; exact mergeKD_n Nl.nil (pairsD_n (Nd.unl hx) q))⟩
  | _ => trivial
theorem ne_dix (ho : NE c o) (hk : NE c k) : NE c (eDIx o k) := fun δ s hd hs => (ho δ s hd hs).bind fun x s1 hx h1 => (hk δ s1 hd h1).bind fun y s2 _ h2 => by
  split
  · rename_i q _
    exact .ofO h2 fun d e => valD_n (dk_nl h2 hx q) e
  · trivial
theorem getD_n {o : Option D} {z : D} (h : ∀ d, o = some d → Nd d) (hz : Nd z) : Nd (o.getD z) := by
  cases o with
  | none => exact hz
  | some d => exact h d rfl
theorem ne_dget2 (ho : NE c o) (hk : NE c k) (he : NE c e) : NE c (eDGet2 o k e) := fun δ s hd hs => (ho δ s hd hs).bind fun x s1 hx h1 => by
  split
  · refine (hk δ s1 hd h1).bind fun y s2 _ h2 => (he δ s2 hd h2).bind fun z s3 hz h3 => ?_
    split
    · rename_i q _
      exact ⟨getD_n (fun d e => valD_n (dk_nl h3 hx q) e) hz, h3⟩
    · trivial
  · trivial
theorem ne_dgetT (ho : NE c o) (hk : NA c r) (he : NE c e) : NE c (eDGetT o r e) := fun δ s hd hs => (ho δ s hd hs).bind fun x s1 hx h1 => by
  split
  · refine (hk δ s1 hd h1).bind fun y s2 _ h2 => ?_
    split
    · refine (he δ s2 hd h2).bind fun z s3 hz h3 => ?_
      split
      · rename_i q _
        exact ⟨getD_n (fun d e => valD_n (dt_nl h3 q) e) hz, h3⟩
      · trivial
    · trivial
  · trivial
theorem ns_dputK (ho : NE c o) (hk : NE c k) (he : NE c e) : NS c (sDPutK o k e) := fun δ s hd hs => NQ.bind hd (he δ s hd hs) fun z s1 hz h1 => NQ.bind hd (ho δ s1 hd h1) fun x s2 _ h2 => NQ.bind hd (hk δ s2 hd h2) fun y s3 _ h3 => by
  split
  · split
    · rename_i q
      split
      · exact ⟨hd, h3.set (by show nocL _ = true; exact putKD_n (h3.get q) hz)⟩
      · trivial
    · trivial
  · trivial
theorem ns_dputT (ho : NE c o) (hk : NA c r) (he : NE c e) : NS c (sDPutT o r e) := fun δ s hd hs => NQ.bind hd (he δ s hd hs) fun z s1 hz h1 => NQ.bind hd (ho δ s1 hd h1) fun x s2 _ h2 => NQ.bind hd (hk δ s2 hd h2) fun y s3 _ h3 => by
  split
  · split
    · split
      · rename_i q
        split
        · exact ⟨hd, h3.set (by show nocL _ = true; exact putKD_n (h3.get q) hz)⟩
        · trivial
      · trivial
    · trivial
  · trivial
theorem na_dvals (ho : NE c o) : NA c (iDVals o) := fun δ s hd hs => (ho δ s hd hs).bind fun x s1 _ h1 => by
  split
  · split
    · rename_i q; exact ⟨h1.get q, h1.set (by have z : nocL _ = true := h1.get q; exact z)⟩
    · rename_i q; exact ⟨h1.get q, h1⟩
    · trivial
  · trivial
/-! ### what is walked -/
theorem rngD_n (lo : Int) (n : Nat) : Nl (rngD lo n) := by
  unfold rngD
  exact Nl.map fun _ _ => rfl
theorem na_range1 (h : NA c r) : NA c (iRange1 r) := fun δ s hd hs => by
  rw [v_iRange1]
  refine (h δ s hd hs).bind fun ds s1 _ h1 => ?_
  split
  · split
    · exact ⟨rngD_n _ _, h1⟩
    · trivial
  · trivial
theorem na_range2 (h : NA c r) : NA c (iRange2 r) := fun δ s hd hs => by
  rw [v_iRange2]
  refine (h δ s hd hs).bind fun ds s1 _ h1 => ?_
  split
  · split
    · exact ⟨rngD_n _ _, h1⟩
    · trivial
  · trivial
theorem na_revR2 (ha : NE c a) (hb : NE c b) : NA c (iRevR2 a b) := fun δ s hd hs => by
  rw [v_iRevR2]
  refine (ha δ s hd hs).bind fun x s1 _ h1 => (hb δ s1 hd h1).bind fun y s2 _ h2 => ?_
  split
  · split
    · exact ⟨Nl.sub (rngD_n _ _) fun x m => by simpa using m, h2⟩
    · trivial
  · trivial
theorem na_seq (h : NE c e) : NA c (iSeq e) := fun δ s hd hs => (h δ s hd hs).bind fun d s1 hx h1 => .ofO h1 fun xs q => by
  unfold seqOf at q
  split at q <;> first | (cases q; exact hx) | (cases q; exact signs_nl _) | exact nomatch q
theorem enumD_n {xs : List D} (h : Nl xs) : Nl (enumD xs) := by
  unfold enumD
  refine Nl.map fun p m => ?_
  have : p.1 ∈ xs := by
    have := List.mem_zipIdx m
    obtain ⟨_, _, q⟩ := this
    rw [q]
    exact List.getElem_mem _
  exact Nd.tup (Nl.cons rfl (Nl.cons (h.mem this) Nl.nil))
theorem na_enum (h : NA c r) : NA c (iEnumD r) := fun δ s hd hs => (h δ s hd hs).bind fun ds s1 hx h1 => by
  split
  · exact ⟨enumD_n hx.head, h1⟩
  · trivial
theorem na_revD (h : NA c r) : NA c (iRevD r) := fun δ s hd hs => (h δ s hd hs).bind fun ds s1 hx h1 => by
  split
  · exact ⟨Nl.sub (xs := _) hx.head fun x m => by simpa using m, h1⟩
  · trivial
theorem zipD_n {xs ys : List D} (h : Nl xs) (k : Nl ys) : Nl (zipD xs ys) := by
  refine Nl.of fun x m => ?_
  unfold zipD at m
  first
    | (obtain ⟨⟨a, b⟩, hp, rfl⟩ := List.mem_map.mp m
       exact Nd.tup (Nl.cons (h.mem (List.of_mem_zip hp).1) (Nl.cons (k.mem (List.of_mem_zip hp).2) Nl.nil)))
    | (obtain ⟨i, hi⟩ := List.mem_iff_getElem?.mp m
       rw [List.getElem?_zipWith] at hi
       split at hi
       · cases hi
         exact Nd.tup (Nl.cons (h.mem (List.mem_of_getElem? (by assumption))) (Nl.cons (k.mem (List.mem_of_getElem? (by assumption))) Nl.nil))
       · exact nomatch hi)
theorem na_zip (h : NA c r) : NA c (iZipD r) := fun δ s hd hs => (h δ s hd hs).bind fun ds s1 hx h1 => by
  split
  · exact ⟨zipD_n hx.head hx.tail.head, h1⟩
  · exact ⟨zipD_n hx.head hx.tail.head, h1⟩
  · trivial
/-! ### refusals -/
theorem zip_n {ns : List Str} {ys : List D} (h : Nl ys) : Nl ((ns.zip ys).map (·.2)) := Nl.sub h fun x m => by
  obtain ⟨⟨k, y⟩, h1, rfl⟩ := List.mem_map.mp m
  exact (List.of_mem_zip h1).2
theorem ns_raiseF {cn : String} {ns : List Str} (h : NA c r) : NS c (sRaiseF cn ns r) := fun δ s hd hs => NQ.bind hd (h δ s hd hs) fun ds s1 hx h1 => by
  split
  · split
    · refine ⟨?_, hd, h1⟩
      show nocL _ = true
      refine Nl.sub (zip_n (ns := ns) hx.tail) fun x m => ?_
      rw [List.map_reverse] at m
      simpa using m
    · trivial
  · trivial
theorem ne_evf {n : Str} {tt : String → Bool} (h : NE c e) : NE c (eFdE n tt e) := fun δ s hd hs => (h δ s hd hs).bind fun d s1 hx h1 => .ofO h1 fun x q => by
  unfold gFdE at q
  split at q
  · split at q
    · exact lookup_nd (zip_n (ys := _) hx) q
    · exact nomatch q
  · exact nomatch q
theorem evD_n {e : Ex} (h : nocX e = true) : Nd (evD e) := h
theorem ns_tryS {tt : String → Option Bool} {i : Nat} (hf : NS c f) (hg : NS c g) : NS c (sTryS tt i f g) := fun δ s hd hs => by
  have z := hf δ s hd hs
  rw [v_sTryS]
  cases q : f δ s with
  | exc e δ1 s1 =>
    rw [q] at z
    simp only
    cases tt e.cls with
    | none => trivial
    | some bb =>
      cases bb with
      | false => exact z
      | true =>
        have z2 := hg _ s1 (z.2.1.set (evD_n z.1) (i := i)) z.2.2
        simp only
        cases q2 : g (δ1.set i (some (evD e))) s1 with
        | nx δ2 s2 => rw [q2] at z2; exact ⟨z2.1.unset, z2.2⟩
        | bk δ2 s2 => rw [q2] at z2; exact ⟨z2.1.unset, z2.2⟩
        | ct δ2 s2 => rw [q2] at z2; exact ⟨z2.1.unset, z2.2⟩
        | rt d s2 => rw [q2] at z2; exact z2
        | exc e2 δ2 s2 => trivial
        | stk => trivial
  | nx δ2 s2 => rw [q] at z; exact z
  | bk δ2 s2 => rw [q] at z; exact z
  | ct δ2 s2 => rw [q] at z; exact z
  | rt d s2 => rw [q] at z; exact z
  | stk => trivial
theorem ns_tryE {tt : String → Option Bool} {h : S} (hf : NS c f) (hg : NS c g) (hh : NS c h) : NS c (sTryE tt f g h) := fun δ s hd hs => by
  have z := hf δ s hd hs
  rw [v_sTryE]
  cases q : f δ s with
  | exc e δ1 s1 =>
    rw [q] at z
    simp only
    cases tt e.cls with
    | none => trivial
    | some bb =>
      cases bb with
      | false => exact z
      | true =>
        have z2 := hg δ1 s1 z.2.1 z.2.2
        simp only
        cases q2 : g δ1 s1 with
        | nx δ2 s2 => rw [q2] at z2; exact z2
        | bk δ2 s2 => rw [q2] at z2; exact z2
        | ct δ2 s2 => rw [q2] at z2; exact z2
        | rt d s2 => rw [q2] at z2; exact z2
        | exc e2 δ2 s2 => trivial
        | stk => trivial
  | nx δ2 s2 => rw [q] at z; exact hh δ2 s2 z.1 z.2
  | bk δ2 s2 => rw [q] at z; exact z
  | ct δ2 s2 => rw [q] at z; exact z
  | rt d s2 => rw [q] at z; exact z
  | stk => trivial
end
/-! ### a def -/
theorem nf_run {N : Nat} {body : S} (h : NS [] body) : NF (runG N body) := fun ds s hd hs => by
  have z := h _ s (NSl.start (n := N - ds.length) hd) hs
  unfold runG
  cases q : body (ds.map some ++ List.replicate (N - ds.length) none) s with
  | nx δ2 s2 => rw [q] at z; exact ⟨rfl, z.2⟩
  | rt d s2 => rw [q] at z; exact z
  | exc e2 δ2 s2 => rw [q] at z; exact ⟨z.1, z.2.2⟩
  | bk δ2 s2 => trivial
  | ct δ2 s2 => trivial
  | stk => trivial
theorem nf_stk : NF fun _ _ => .stk := fun _ _ _ _ => trivial
/-- of a function made in a def -/
theorem nf_runN {N : Nat} {body : S} {cs : List D} (h : NS [] body) (hc : Nl cs) : NF (runN N body cs) := fun ds s hd hs => by
  have e : ds.map some ++ (cs.map some ++ List.replicate (N - ds.length - cs.length) (none : Option D)) = (ds ++ cs).map some ++ List.replicate (N - ds.length - cs.length) none := by rw [List.map_append, List.append_assoc]
  have z := h _ s (NSl.start (n := N - ds.length - cs.length) (hd.app hc)) hs
  unfold runN
  rw [e]
  cases q : body ((ds ++ cs).map some ++ List.replicate (N - ds.length - cs.length) none) s with
  | nx δ2 s2 => rw [q] at z; exact ⟨rfl, z.2⟩
  | rt d s2 => rw [q] at z; exact z
  | exc e2 δ2 s2 => trivial
  | bk δ2 s2 => trivial
  | ct δ2 s2 => trivial
  | stk => trivial
/-! ### operators -/
theorem nb_add : NB gAdd := by
  intro x y d hx hy h
  unfold gAdd at h
  (split at h)
  all_goals (try (split at h))
  all_goals first | (cases h; rfl) | (cases h; done) | (cases h; exact Nl.app hx hy)
theorem nb_addI : NB gAddI := by
  intro x y d hx hy h
  unfold gAddI at h
  repeat' (split at h)
  all_goals first | (cases h; rfl) | (cases h; done) | (cases h; exact Nl.app hx hy) | exact nb_add _ _ _ hx hy h
theorem nb_sub : NB gSub := by
  intro x y d hx hy h
  unfold gSub at h
  (split at h)
  all_goals (try (split at h))
  all_goals first | (cases h; rfl) | (cases h; done) | (cases h; exact Nl.app hx hy)
theorem nb_mul : NB gMul := by
  intro x y d hx hy h
  unfold gMul at h
  (split at h)
  all_goals (try (split at h))
  all_goals first | (cases h; rfl) | (cases h; done) | (cases h; exact Nl.app hx hy)
theorem nb_div : NB gDiv := by
  intro x y d hx hy h
  unfold gDiv at h
  (split at h)
  all_goals (try (split at h))
  all_goals first | (cases h; rfl) | (cases h; done) | (cases h; exact Nl.app hx hy)
theorem nb_mod : NB gMod := by
  intro x y d hx hy h
  unfold gMod at h
  (split at h)
  all_goals (try (split at h))
  all_goals first | (cases h; rfl) | (cases h; done) | (cases h; exact Nl.app hx hy)
theorem nb_pow : NB gPow := by
  intro x y d hx hy h
  unfold gPow at h
  (split at h)
  all_goals (try (split at h))
  all_goals first | (cases h; rfl) | (cases h; done) | (cases h; exact Nl.app hx hy)
theorem nb_shl : NB gShl := by
  intro x y d hx hy h
  unfold gShl at h
  (split at h)
  all_goals (try (split at h))
  all_goals first | (cases h; rfl) | (cases h; done) | (cases h; exact Nl.app hx hy)
theorem nb_shr : NB gShr := by
  intro x y d hx hy h
  unfold gShr at h
  (split at h)
  all_goals (try (split at h))
  all_goals first | (cases h; rfl) | (cases h; done) | (cases h; exact Nl.app hx hy)
theorem nb_lt : NB gLt := by
  intro x y d hx hy h
  unfold gLt at h
  (split at h)
  all_goals (try (split at h))
  all_goals first | (cases h; rfl) | (cases h; done) | (cases h; exact Nl.app hx hy)
theorem nb_le : NB gLe := by
  intro x y d hx hy h
  unfold gLe at h
  (split at h)
  all_goals (try (split at h))
  all_goals first | (cases h; rfl) | (cases h; done) | (cases h; exact Nl.app hx hy)
theorem nb_gt : NB gGt := by
  intro x y d hx hy h
  unfold gGt at h
  (split at h)
  all_goals (try (split at h))
  all_goals first | (cases h; rfl) | (cases h; done) | (cases h; exact Nl.app hx hy)
theorem nb_ge : NB gGe := by
  intro x y d hx hy h
  unfold gGe at h
  (split at h)
  all_goals (try (split at h))
  all_goals first | (cases h; rfl) | (cases h; done) | (cases h; exact Nl.app hx hy)
theorem nb_map {o : Option Bool} {f : Bool → D} {d : D} (hf : ∀ b, Nd (f b)) (h : o.map f = some d) : Nd d := by
  cases o with
  | none => exact nomatch h
  | some b => cases h; exact hf b
theorem nb_eq : NB gEq := fun x y d _ _ h => nb_map (fun _ => rfl) h
theorem nb_ne : NB gNe := fun x y d _ _ h => nb_map (fun _ => rfl) h
theorem nb_isN : NB gIsN := by
  intro x y d hx hy h
  unfold gIsN at h
  (split at h)
  all_goals (try (split at h))
  all_goals first | (cases h; rfl) | (cases h; done) | (cases h; exact Nl.app hx hy)
theorem nb_notN : NB gNotN := by
  intro x y d hx hy h
  unfold gNotN at h
  (split at h)
  all_goals (try (split at h))
  all_goals first | (cases h; rfl) | (cases h; done) | (cases h; exact Nl.app hx hy)
theorem nb_isB : NB gIsB := by
  intro x y d hx hy h
  unfold gIsB at h
  (split at h)
  all_goals (try (split at h))
  all_goals first | (cases h; rfl) | (cases h; done) | (cases h; exact Nl.app hx hy)
theorem nb_notB : NB gNotB := by
  intro x y d hx hy h
  unfold gNotB at h
  (split at h)
  all_goals (try (split at h))
  all_goals first | (cases h; rfl) | (cases h; done) | (cases h; exact Nl.app hx hy)
theorem nb_mapA {α : Type} {o : Option α} {f : α → D} {d : D} (hf : ∀ b, Nd (f b)) (h : o.map f = some d) : Nd d := by
  cases o with
  | none => exact nomatch h
  | some b => cases h; exact hf b
theorem nb_in : NB gIn := by
  intro x y d hx hy h
  unfold gIn at h
  repeat' (split at h)
  all_goals first | (cases h; rfl) | (cases h; done) | exact nb_mapA (fun _ => rfl) h
theorem nb_nin : NB gNin := by
  intro x y d hx hy h
  unfold gNin at h
  first
    | exact nb_mapA (fun _ => rfl) h
    | (repeat' (split at h)
       all_goals first | (cases h; rfl) | (cases h; done) | exact nb_mapA (fun _ => rfl) h)
theorem nb_ix : NB gIx := by
  intro x y d hx hy h
  unfold gIx at h
  split at h
  · exact atI_nd hx h
  · exact atI_nd hx h
  · split at h
    · cases q : atI _ _ with
      | none => rw [q] at h; exact nomatch h
      | some z => rw [q] at h; cases h; rfl
    · exact nomatch h
  · exact nomatch h
theorem nu_neg : NU gNeg := by
  intro x d hx h
  unfold gNeg at h
  (split at h)
  all_goals (try (split at h))
  all_goals first | (cases h; rfl) | (cases h; done) | (cases h; exact hx)
theorem nu_rev : NU gRev := by
  intro x d hx h
  unfold gRev at h
  split at h
  · cases h; exact Nl.sub (xs := _) hx fun x m => by simpa using m
  · exact nomatch h
theorem nu_revA : NU gRevA := by
  intro x d hx h
  unfold gRevA at h
  split at h
  · cases h; exact Nl.sub (xs := _) hx fun x m => by simpa using m
  · cases h; exact Nl.sub (xs := _) hx fun x m => by simpa using m
  · split at h
    · cases h; rfl
    · exact nomatch h
  · exact nomatch h
theorem nu_mapT {o : Option String} {f : String → D} {d : D} (hf : ∀ b, Nd (f b)) (h : o.map f = some d) : Nd d := by
  cases o with
  | none => exact nomatch h
  | some b => cases h; exact hf b
theorem nu_isi {n : String} : NU (gIsi n) := fun x d _ h => nu_mapT (fun _ => rfl) h
theorem nu_isi2 {n m : String} : NU (gIsi2 n m) := fun x d _ h => nu_mapT (fun _ => rfl) h
theorem nu_isD {tb : String → Option Bool} : NU (gIsD tb) := by
  intro x d hx h
  unfold gIsD at h
  split at h
  · cases h; rfl
  · exact nb_map (fun _ => rfl) h
  · exact nomatch h
theorem ng_len : NG gLen := by
  intro x d hx h
  unfold gLen at h
  (split at h)
  all_goals (try (split at h))
  all_goals first | (cases h; rfl) | (cases h; done) | (cases h; exact hx)
theorem ng_min2 : NG gMin2 := by
  intro x d hx h
  unfold gMin2 at h
  (split at h)
  all_goals (try (split at h))
  all_goals first | (cases h; rfl) | (cases h; done) | (cases h; exact hx)
theorem ng_max2 : NG gMax2 := by
  intro x d hx h
  unfold gMax2 at h
  (split at h)
  all_goals (try (split at h))
  all_goals first | (cases h; rfl) | (cases h; done) | (cases h; exact hx)
theorem ng_abs : NG gAbs := by
  intro x d hx h
  unfold gAbs at h
  (split at h)
  all_goals (try (split at h))
  all_goals first | (cases h; rfl) | (cases h; done) | (cases h; exact hx)
theorem ng_int : NG gInt := by
  intro x d hx h
  unfold gInt at h
  (split at h)
  all_goals (try (split at h))
  all_goals (try (split at h))
  all_goals first | (cases h; rfl) | (cases h; done) | (cases h; exact hx)
theorem ng_str : NG gStr := by
  intro x d hx h
  unfold gStr at h
  (split at h)
  all_goals (try (split at h))
  all_goals first | (cases h; rfl) | (cases h; done) | (cases h; exact hx)
theorem ng_list : NG gList := by
  intro x d hx h
  unfold gList at h
  split at h
  · cases h; exact hx.head
  · cases h; exact hx.head
  · split at h
    · cases h; exact signs_nl _
    · exact nomatch h
  · exact nomatch h
theorem ng_tuple : NG gTuple := by
  intro x d hx h
  unfold gTuple at h
  split at h
  · cases h; exact hx.head
  · cases h; exact hx.head
  · exact nomatch h
theorem ng_divmod : NG gDivmod := by
  intro x d hx h
  unfold gDivmod at h
  (split at h)
  all_goals (try (split at h))
  all_goals first | (cases h; rfl) | (cases h; done) | (cases h; exact hx)
theorem nl_map {o : Option (List Int)} {f : List Int → D} {d : D} (hf : ∀ b, Nd (f b)) (h : o.map f = some d) : Nd d := by
  cases o with
  | none => exact nomatch h
  | some b => cases h; exact hf b
theorem nl_mapB {o : Option (List Bool)} {f : List Bool → D} {d : D} (hf : ∀ b, Nd (f b)) (h : o.map f = some d) : Nd d := by
  cases o with
  | none => exact nomatch h
  | some b => cases h; exact hf b
theorem ng_sum : NG gSum := by
  intro x d hx h
  unfold gSum at h
  split at h
  · exact nl_map (fun _ => rfl) h
  · exact nomatch h
theorem ng_sumA : NG gSumA := by
  intro x d hx h
  unfold gSumA at h
  split at h
  · exact nl_map (fun _ => rfl) h
  · exact nl_map (fun _ => rfl) h
  · exact nomatch h
theorem ng_all : NG gAll := by
  intro x d hx h
  unfold gAll at h
  split at h
  · exact nl_mapB (fun _ => rfl) h
  · exact nomatch h
theorem ng_any : NG gAny := by
  intro x d hx h
  unfold gAny at h
  split at h
  · exact nl_mapB (fun _ => rfl) h
  · exact nomatch h
theorem nm_find : ∀ x y d, gFind x y = some d → Nd d := by
  intro x y d h
  unfold gFind at h
  split at h
  · cases h; rfl
  · exact nomatch h
theorem nm_starts : ∀ x y d, gStarts x y = some d → Nd d := by
  intro x y d h
  unfold gStarts at h
  split at h
  · cases h; rfl
  · exact nomatch h
theorem nm_join : ∀ x y d, gJoin x y = some d → Nd d := by
  intro x y d h
  unfold gJoin at h
  split at h
  · rename_i xs
    cases q : strsOf xs with
    | none => rw [q] at h; exact nomatch h
    | some ys =>
      rw [q] at h
      simp only [Option.bind_some] at h
      split at h
      · cases h; rfl
      · exact nomatch h
  · exact nomatch h
theorem nu_isi3 {n m l : String} : NU (gIsi3 n m l) := fun x d _ h => nu_mapT (fun _ => rfl) h
theorem ng_minDf {i : Int} : NG (gMinDf i) := by
  intro x d hx h
  unfold gMinDf at h
  split at h
  · exact nl_map (fun b => by cases b <;> rfl) h
  · exact nomatch h
theorem nm_part : ∀ x y d, gPart x y = some d → Nd d := by
  intro x y d h
  unfold gPart at h
  split at h
  · split at h
    · cases h; rfl
    · exact nomatch h
  · exact nomatch h
theorem nm_split : ∀ x y d, gSplit x y = some d → Nd d := by
  intro x y d h
  unfold gSplit at h
  split at h
  · split at h
    · cases h; exact Nl.map fun _ _ => rfl
    · exact nomatch h
  · exact nomatch h
section
variable {c : List Nat} {r : As}
theorem na_range3 (h : NA c r) : NA c (iRange3 r) := fun δ s hd hs => by
  unfold iRange3
  refine (h δ s hd hs).bind fun ds s1 _ h1 => ?_
  split
  · split
    · exact ⟨Nl.of fun x m => by
        obtain ⟨i, hi⟩ := List.mem_iff_getElem?.mp m
        unfold rngS at hi
        simp only [List.getElem?_map, Option.map_eq_some_iff] at hi
        obtain ⟨_, _, rfl⟩ := hi
        rfl, h1⟩
    · trivial
  · trivial
end
end Gs

/-! GDp: a call that only looks at the lists of the store, at any depth. -/
namespace Gs
open PySem L2
/-- the frozen look of a datum, all through -/
def deepD (s : Sto) : Nat → D → D
  | 0, d => d
  | n + 1, .ob i => match s[i]? with
    | some (.lst xs) => .lst (xs.map (deepD s n))
    | _ => .ob i
  | n + 1, .lst xs => .lst (xs.map (deepD s n))
  | n + 1, .tup xs => .tup (xs.map (deepD s n))
  | _ + 1, d => d
section
variable {K : PySem.W.Frag} {ct : String → Addr} {v : Vw}
theorem RepL.mapp {K : PySem.W.Frag} {ct : String → Addr} {G G' : Hp} {m : Nat → Option Addr} {f : D → D} (h : ∀ d x, Rep K ct G m d x → Rep K ct G' m (f d) x) : ∀ {ds : List D} {xs : List V}, RepL K ct G m ds xs → RepL K ct G' m (ds.map f) xs
  | _, _, .nil => .nil
  | _, _, .cons r rs => .cons (h _ _ r) (RepL.mapp h rs)
theorem deep_rep (s : SR K ct v) : ∀ (n : Nat) {d : D} {x : V}, Rep K ct v.G v.m d x → Rep K ct v.lookG v.m (deepD v.st n d) x
  | 0, d, x, r => r.mono (lookG_same s) .refl
  | n + 1, d, x, r => by
    have ih : ∀ d x, Rep K ct v.G v.m d x → Rep K ct v.lookG v.m (deepD v.st n d) x := fun d x r => deep_rep s n r
    cases d with
    | ob i =>
      cases e : v.st[i]? with
      | none =>
        have : deepD v.st (n + 1) (.ob i) = .ob i := by simp only [deepD, e]
        rw [this]
        exact r.mono (lookG_same s) .refl
      | some o =>
        cases o with
        | lst xs =>
          have : deepD v.st (n + 1) (.ob i) = .lst (xs.map (deepD v.st n)) := by simp only [deepD, e]
          rw [this]
          cases r with
          | @ob _ _ _ a em =>
            obtain ⟨a', em', g, vs, hh, rr⟩ := s.obj i _ e rfl
            rw [em] at em'
            cases em'
            have : v.lookG a = some (.lst vs) := by
              unfold Vw.lookG
              rw [if_pos ⟨i, xs, e, em⟩]
              exact hh
            exact .lst (SqL.of this) (RepL.mapp ih rr)
        | _ =>
          have : deepD v.st (n + 1) (.ob i) = .ob i := by simp only [deepD, e]
          rw [this]
          exact r.mono (lookG_same s) .refl
    | lst xs =>
      cases r with
      | lst h rr => exact .lst ((lookG_same s).seq h) (RepL.mapp ih rr)
    | tup xs =>
      cases r with
      | tup h rr => exact .tup (sqt_mono (lookG_same s) h) (RepL.mapp ih rr)
    | _ => exact r.mono (lookG_same s) .refl
theorem deep_repL (s : SR K ct v) (n : Nat) {ds : List D} {xs : List V} (r : RepL K ct v.G v.m ds xs) : RepL K ct v.lookG v.m (ds.map (deepD v.st n)) xs := RepL.mapp (fun _ _ r => deep_rep s n r) r
end
noncomputable def eCallZ (F : List D → Sto → R D) (a : As) : E := fun δ s => (a δ s).bind fun ds s1 => thawR s1 (F (ds.map (deepD s1 12)) (gones s1.length))
section
variable {X : Cx} {C : Cc} {pos p : Pos} {x : Str} {e : Expr} {es : List Expr} {fa : As} {k n : Nat} {f : Addr} {fd : FuncData} {ps : List Str} {F : List D → Sto → R D}
theorem se_callZ (hF : FnOk X.prog X.w X.K X.mg X.base (L2.CX X.prog X.w) k f fd ps (spG X.K C.ct n F)) (hr : Room k X.A) (tk : Takes X C.W) (hg : Gl X x) (hm : X.mg x = some (.ref f)) (hk : PySem.W.keepIn X.K (.ref f) = true) (hb : Binds X.K fd ps [])
    (ha : SA X C (e :: es) fa) (hl : LenA fa n) (hdb : (x == ("__debug__" : Str)) = false := by decide) (he : starEach (e :: es) X.env = (false, eval e X.env) :: starEach es X.env := by rfl) (hpl : (backTo pos (starEach es X.env)).any (·.1) = false := by rfl) :
    SE X C (.Call (.Name x p) (e :: es) [] pos) (eCallZ F fa) :=
  pe_weak (pe_callS hF hr hg hm hk hb (fun σ => passAt tk σ) ha hdb he hpl) fun σ H Q ⟨δ, v, re, eH, h⟩ => ⟨δ, v, re, eH, on_mono (on_eq (on_bind h)) fun ds vs v1 l1 s1 r1 h1 => by
    obtain ⟨h1, s, q⟩ := h1
    refine ⟨⟨v1.lookG, v1.H, v1.m, gones v1.st.length⟩, ds.map (deepD v1.st 12), rfl, look_ok s1, by rw [List.length_map]; exact hl _ _ _ _ q, deep_repL s1 12 r1, ?_⟩
    show match F (ds.map (deepD v1.st 12)) (gones v1.st.length) with
      | .ok d s => _
      | .exc e s => _
      | .stk => _
    unfold thawR at h1
    cases z : F (ds.map (deepD v1.st 12)) (gones v1.st.length) with
    | stk => rw [z] at h1; exact h1.elim
    | exc e2 s2 => rw [z] at h1; exact h1.elim
    | ok d s2 =>
      rw [z] at h1
      simp only at h1
      split at h1
      · rename_i hz
        obtain ⟨h3, h4, h5⟩ := hz
        intro x2 v' l' s' es r'
        obtain ⟨l2, s3⟩ := thaw_ok (k := s2.length) s1 l' s' (by rw [es]; exact h5) h4
        have rep : ∀ G m, Rep X.K C.ct G m d x2 := by
          cases r' <;> first
            | exact fun G m => .non
            | exact fun G m => .bl _
            | exact fun G m => .int _
            | exact fun G m => .str _
            | (simp only [scal, Bool.false_eq_true] at h3)
        exact h1 x2 ⟨lessG v1 v'.G, v'.H, v'.m, v1.st ++ gones (s2.length - v1.st.length)⟩ l2 s3 rfl (rep _ _)
      · exact h1.elim⟩
end
@[simp] theorem v_eCallZ (F : List D → Sto → R D) (a : As) (δ : Sl) (s : Sto) : eCallZ F a δ s = (a δ s).bind fun ds s1 => thawR s1 (F (ds.map (deepD s1 12)) (gones s1.length)) := id rfl
end Gs

/-! GFo: walks over lists of the store (each turn asks that the list is still as it was), in for and in list comprehensions. -/
namespace Gs
open PySem PySem.Spec PyProof.Rows L2
/-- the things that are walked, and the place in the store, where they stand in a list of it -/
abbrev Wk := List D × Option Nat
def Stl (q : Wk) (s : Sto) : Prop := ∀ k, q.2 = some k → s[k]? = some (.lst q.1)
abbrev AsO := Sl → Sto → R Wk
structure ItO (K : PySem.W.Frag) (ct : String → Addr) (J : It) (v : Vw) (q : Wk) : Prop where
  go : ∀ i w, Le v w → SR K ct w → Stl q w.st → i < q.1.length → J.go i w.H
  stop : ∀ i w, Le v w → SR K ct w → Stl q w.st → q.1.length ≤ i → J.stop i w.H
  yld : ∀ i w x H', Le v w → SR K ct w → Stl q w.st → i < q.1.length → J.yld i w.H x H' → ∃ d w2, q.1[i]? = some d ∧ w2.H = H' ∧ Le w w2 ∧ SR K ct w2 ∧ w2.st = w.st ∧ Rep K ct w2.G w2.m d x
abbrev rIO (K : PySem.W.Frag) (ct : String → Addr) : Wk → It → Vw → Prop := fun q J v => ItO K ct J v q
def liftIO (K : PySem.W.Frag) (C : Cc) (f : AsO) : TI := fun σ H P => ∃ δ v, RE K C σ δ v ∧ v.H = H ∧ on K C σ v (rIO K C.ct) (f δ v.st) fun _ J v' => P J v'.H
abbrev SIO (X : Cx) (C : Cc) (tg e : Expr) (f : AsO) : Prop := PI X tg e (liftIO X.K C f)
open Classical in
noncomputable def forO (q : Wk) (p : Pt) (body : S) : List D → Sl → Sto → RS
  | [], δ, s => if Stl q s then .nx δ s else .stk
  | d :: ds, δ, s => if Stl q s then (match bindP p d δ with
    | none => .stk
    | some δ1 => match body δ1 s with
      | .nx δ2 s2 => forO q p body ds δ2 s2
      | .ct δ2 s2 => forO q p body ds δ2 s2
      | .bk δ2 s2 => .nx δ2 s2
      | r => r) else .stk
noncomputable def sForO (it : AsO) (p : Pt) (body : S) : S := fun δ s => sBind (it δ s) δ fun q s1 => forO q p body q.1 δ s1
open Classical in
noncomputable def lcO (q : Wk) (p : Pt) (c : T) (e : E) (δ : Sl) : List D → Sto → R (List D)
  | [], s => if Stl q s then .ok [] s else .stk
  | d :: ds, s => if Stl q s then (match bindP p d δ with
    | none => .stk
    | some δ1 => match c δ1 s with
      | .ok true s1 => (match e δ1 s1 with
        | .ok y s2 => (match lcO q p c e δ ds s2 with
          | .ok r s3 => .ok (y :: r) s3
          | _ => .stk)
        | _ => .stk)
      | .ok false s1 => lcO q p c e δ ds s1
      | _ => .stk) else .stk
theorem lcO_exc {q : Wk} {p : Pt} {c : T} {e : E} {δ : Sl} : ∀ (ds : List D) (s : Sto) (ex : Ex) (s' : Sto), lcO q p c e δ ds s ≠ .exc ex s'
  | [], s, ex, s', z => by
    simp only [lcO] at z
    split at z <;> exact nomatch z
  | d :: ds, s, ex, s', z => by
    simp only [lcO] at z
    split at z
    · split at z
      · exact nomatch z
      · split at z
        · split at z
          · split at z <;> exact nomatch z
          · exact nomatch z
        · exact lcO_exc ds _ _ _ z
        · exact nomatch z
    · exact nomatch z
noncomputable def fLcO (it : AsO) (vs : List Nat) (p : Pt) (c : T) (e : E) : Fr := fun δ s => (it δ s).bind fun q s1 => (lcO q p c e (wipeD δ vs) q.1 s1).bind fun xs s2 => if xs.length ≤ sizeLine then .ok xs s2 else .stk
section
variable {X : Cx} {C : Cc} {pos : Pos} {tg iter : Expr}
theorem ss_forO {body : List Stmt} {f : AsO} {p : Pt} {fb : S} (hp : PassesOwn (model X.prog X.w) X.A X.env X.xe) (hc : X.calm = true) (hi : SIO X C tg iter f) (hg : SG X C tg p) (hb : SSs X C body fb)
    (hs : ∀ x, foldedSetIterable iter X.env x = pure x := by intro _; rfl) : SS X C (.For tg iter body [] pos) (sForO f p fb) := ps_weak (ps_for hp hc hi hg hb hs) fun Dn σ H ⟨δ, v, re, eH, h⟩ => by
  refine ⟨δ, v, re, eH, on_mono (onS_R re h) fun wk J v1 l1 s1 ok h0 => ?_⟩
  obtain ⟨items, hit⟩ : ∃ items, wk.1 = items := ⟨_, rfl⟩
  refine ⟨fun i m σ H => m = items.length - i ∧ i ≤ items.length ∧ ∃ δ w, RE X.K C σ δ w ∧ w.H = H ∧ Le v1 w ∧ onS X.K C w (forO wk p fb (items.drop i) δ w.st) Dn, ⟨items.length, by simp, Nat.zero_le _, δ, v1, re.step l1 s1, rfl, .refl, by have h0 : onS X.K C v1 (forO wk p fb wk.1 δ v1.st) Dn := h0; rw [hit] at h0; exact h0⟩, ?_⟩
  rintro i m σ2 H2 ⟨rfl, hi, δ2, w, re2, rfl, lw, q⟩
  have hst : Stl wk w.st := by
    cases e9 : items.drop i with
    | nil =>
      rw [e9] at q
      simp only [forO] at q
      by_cases z : Stl wk w.st
      · exact z
      · rw [if_neg z] at q; exact q.elim
    | cons d ds =>
      rw [e9] at q
      simp only [forO] at q
      by_cases z : Stl wk w.st
      · exact z
      · rw [if_neg z] at q; exact q.elim
  by_cases hlt : i < items.length
  · refine .inr ⟨ok.go i w lw re2.sr hst (by rw [hit]; exact hlt), fun σ H => ∃ δ w, RE X.K C σ δ w ∧ w.H = H ∧ Le v1 w ∧ onS X.K C w (forO wk p fb (items.drop (i + 1)) δ w.st) Dn, fun σ' H' n => ⟨items.length - (i + 1), by omega, rfl, hlt, n⟩, fun x H' y => ?_⟩
    obtain ⟨d, w3, ed, rfl, l3, s3, e3, r3⟩ := ok.yld i w x H' lw re2.sr hst (by rw [hit]; exact hlt) y
    rw [hit] at ed
    have ed2 : items.drop i = d :: items.drop (i + 1) := by
      rw [List.drop_eq_getElem_cons hlt]
      rw [List.getElem?_eq_getElem hlt] at ed
      rw [Option.some.inj ed]
    rw [ed2] at q
    simp only [forO] at q
    rw [if_pos hst] at q
    cases eb : bindP p d δ2 with
    | none => rw [eb] at q; exact q.elim
    | some δ3 =>
      rw [eb] at q
      refine ⟨d, δ2, w3, δ3, re2.step l3 s3, rfl, r3, eb, fun σ4 re4 _ => ⟨δ3, w3, re4, rfl, ?_⟩⟩
      simp only at q
      rw [e3]
      cases ef : fb δ3 w.st with
      | nx δ4 s4 => rw [ef] at q; exact fun σ' w' re' l' es => ⟨δ4, w', re', rfl, (lw.trans l3).trans l', by subst es; exact onS_same (l3.trans l') q⟩
      | ct δ4 s4 => rw [ef] at q; exact fun σ' w' re' l' es => ⟨δ4, w', re', rfl, (lw.trans l3).trans l', by subst es; exact onS_same (l3.trans l') q⟩
      | bk δ4 s4 => rw [ef] at q; exact fun σ' w' re' l' es => q σ' w' re' (l3.trans l') es
      | rt d s4 => rw [ef] at q; exact q
      | exc e4 δ4 s4 => rw [ef] at q; exact fun cls dd σ' w' re' l' es rx => q cls dd σ' w' re' (l3.trans l') es rx
      | stk => rw [ef] at q; exact q
  · have ei : i = items.length := by omega
    subst ei
    rw [List.drop_length] at q
    simp only [forO] at q
    rw [if_pos hst] at q
    exact .inl ⟨ok.stop _ w lw re2.sr hst (by rw [hit]; exact Nat.le_refl _), q σ2 w re2 .refl rfl⟩


/-! ### what is walked -/
theorem itO_of {K : PySem.W.Frag} {ct : String → Addr} {J : It} {v : Vw} {items : List D} (h : ItOk K ct J v items) : ItO K ct J v (items, none) where
  go := fun i w l s _ hi => h.go i w l s hi
  stop := fun i w l s _ hi => h.stop i w l s hi
  yld := fun i w x H' l s _ hi y => h.yld i w x H' l s hi y
theorem itO_own {K : PySem.W.Frag} {ct : String → Addr} {v : Vw} {a : Addr} {k : Nat} {items : List D} (h : v.m k = some a) : ItO K ct (Itl K a) v (items, some k) where
  go := fun i w l s st hi => by
    obtain ⟨a', em, _, vs, hh, r⟩ := s.obj k _ (st k rfl) rfl
    rw [l.m k a h] at em
    cases em
    obtain ⟨x, e, _⟩ := r.get (List.getElem?_eq_getElem hi)
    exact ⟨vs, x, SqL.of hh, e⟩
  stop := fun i w l s st hi => by
    obtain ⟨a', em, _, vs, hh, r⟩ := s.obj k _ (st k rfl) rfl
    rw [l.m k a h] at em
    cases em
    exact ⟨vs, SqL.of hh, by rw [← r.length]; exact hi⟩
  yld := fun i w x H' l s st hi y => by
    obtain ⟨a', em, _, vs, hh, r⟩ := s.obj k _ (st k rfl) rfl
    rw [l.m k a h] at em
    cases em
    obtain ⟨x', e, rv⟩ := r.get (List.getElem?_eq_getElem hi)
    obtain ⟨rfl, y2⟩ := y
    have z := y2 vs (SqL.of hh)
    rw [e] at z
    cases z
    exact ⟨_, w, List.getElem?_eq_getElem hi, rfl, .refl, s, rfl, rv⟩
def wkOf (s : Sto) (d : D) : Option Wk := match d with
  | .ob k => (match s[k]? with
    | some (.lst xs) => some (xs, some k)
    | _ => none)
  | d => (seqOf d).map fun xs => (xs, none)
def iSeqO (f : E) : AsO := fun δ s => (f δ s).bind fun d s1 => R.ofO (wkOf s1 d) s1
theorem si_seqO {e : Expr} {f : E} (he : SE X C e f) : SIO X C tg e (iSeqO f) := by
  refine ⟨fun pins s σ H Rr I ⟨δ, v, re, eH, h⟩ => ?_⟩
  unfold iSeqO at h
  have hz := on_bind (rel := rE X.K C.ct) h
  cases q : f δ v.st with
  | stk => rw [q] at hz; exact hz.elim
  | exc e s1 => exact (pi_list he).run pins s σ H Rr I ⟨δ, v, re, eH, by rw [q] at hz ⊢; exact hz⟩
  | ok d s1 =>
    rw [q] at hz
    have go : ∀ (P : V → Vw → Prop), (∀ x v1, Le v v1 → SR X.K C.ct v1 → v1.st = s1 → Rep X.K C.ct v1.G v1.m d x → P x v1) → on X.K C σ v (rE X.K C.ct) (f δ v.st) fun _ x v' => P x v' := fun P w => by rw [q]; exact w
    cases d with
    | lst xs =>
      refine (pi_list he).run pins s σ H Rr I ⟨δ, v, re, eH, go _ fun x v1 l1 sr1 es r1 => ?_⟩
      have h9 := hz x v1 l1 sr1 es r1
      cases r1 with
      | @lst _ _ a vs _ p rl => exact ⟨a, rfl, ⟨vs, sr1.sub.seq p⟩, on_self sr1 h9 (itO_of (itOk_list p rl))⟩
    | tup xs =>
      refine (pi_tup he).run pins s σ H Rr I ⟨δ, v, re, eH, go _ fun x v1 l1 sr1 es r1 => ?_⟩
      have h9 := hz x v1 l1 sr1 es r1
      cases r1 with
      | @tup _ _ a vs _ p rl => exact ⟨a, rfl, ⟨vs, sqt_mono sr1.sub p⟩, on_self sr1 h9 (itO_of (itOk_tup p rl))⟩
    | str z =>
      refine (pi_str he).run pins s σ H Rr I ⟨δ, v, re, eH, go _ fun x v1 l1 sr1 es r1 => ?_⟩
      have h9 := hz x v1 l1 sr1 es r1
      cases r1
      exact ⟨z, rfl, on_self sr1 h9 (itO_of itOk_str)⟩
    | ob k =>
      refine (pi_list he).run pins s σ H Rr I ⟨δ, v, re, eH, go _ fun x v1 l1 sr1 es r1 => ?_⟩
      have h9 := hz x v1 l1 sr1 es r1
      subst es
      simp only [wkOf] at h9
      split at h9
      · rename_i xs ek
        cases r1 with
        | @ob _ _ _ a em =>
          obtain ⟨a', em', _, vs, hh, _⟩ := sr1.obj k _ ek rfl
          exact ⟨a, rfl, ⟨vs, SqL.of (by rw [em] at em'; cases em'; exact hh)⟩, on_self sr1 h9 (itO_own em)⟩
      · exact h9.elim
    | _ => exact (pi_list he).run pins s σ H Rr I ⟨δ, v, re, eH, go _ fun x v1 l1 sr1 es r1 => (hz x v1 l1 sr1 es r1).elim⟩
end
section
variable {X : Cx} {C : Cc} {pos : Pos}
theorem lift_lcO {K : PySem.W.Frag} {it : AsO} {vs : List Nat} {p : Pt} {c : T} {e : E} (hp : ∀ i ∈ idxP p, i ∈ vs) {σ : L2.St} {H : Hp} {Q : VK} (h : liftF K C (fLcO it vs p c e) σ H Q) :
    tLc (liftIO K C it) (liftG K C.nox p) (liftT K C.nox c) (liftE K C.nox e) vs σ H Q := by
  obtain ⟨δ, v, re, eH, h⟩ := h
  refine ⟨δ, v, re, eH, on_mono (onF_bind h) fun wk J v1 l1 sr1 ok h1 => ?_⟩
  obtain ⟨items, hit⟩ : ∃ items, wk.1 = items := ⟨_, rfl⟩
  intro L hD
  have h2 : onF K C σ v1 ((lcO wk p c e (wipeD δ vs) items v1.st).bind fun xs s2 => if xs.length ≤ sizeLine then .ok xs s2 else .stk) fun _ p v' => Q (.ref p) v'.H := by
    have h1 : onF K C σ v1 ((lcO wk p c e (wipeD δ vs) wk.1 v1.st).bind fun xs s2 => if xs.length ≤ sizeLine then .ok xs s2 else .stk) fun _ p v' => Q (.ref p) v'.H := h1
    rw [hit] at h1
    exact h1
  clear h1
  cases q1 : lcO wk p c e (wipeD δ vs) items v1.st with
  | stk => rw [q1] at h2; exact h2.elim
  | exc ex s' => exact absurd q1 (lcO_exc _ _ _ _)
  | ok xs s9 =>
    rw [q1] at h2
    have h3 : xs.length ≤ sizeLine ∧ ∀ (va : List V) (v2 : Vw), Le v1 v2 → SR K C.ct v2 → v2.st = s9 → Aside v2 L va → RepL K C.ct v2.G v2.m xs va → Q (.ref L) v2.H := by
      have h4 : onF K C σ v1 (if xs.length ≤ sizeLine then .ok xs s9 else .stk) fun _ p v' => Q (.ref p) v'.H := h2
      by_cases z : xs.length ≤ sizeLine
      · rw [if_pos z] at h4
        exact ⟨z, fun va v2 l2 s2 es a2 ra => h4 L va v2 l2 s2 es hD a2.g a2.h a2.no ra⟩
      · rw [if_neg z] at h4
        exact h4.elim
    obtain ⟨hz, fin⟩ := h3
    clear h2
    have start : ∃ v2, v2.H = upd v1.H L (.lst []) ∧ Le v1 v2 ∧ SR K C.ct v2 ∧ Aside v2 L [] ∧ v2.st = v1.st := by
      obtain ⟨l2, s2, no⟩ := newH (u := .lst []) sr1 hD
      exact ⟨⟨v1.G, upd v1.H L (.lst []), v1.m, v1.st⟩, rfl, l2, s2, ⟨upd_same, sr1.free hD, no⟩, rfl⟩
    refine ⟨fun i m H2 => m = items.length - i ∧ i ≤ items.length ∧ ∃ (v2 : Vw) (acc rest : List D) (va : List V), v2.H = H2 ∧ Le v1 v2 ∧ SR K C.ct v2 ∧ Aside v2 L va ∧ RepL K C.ct v2.G v2.m acc va ∧
      lcO wk p c e (wipeD δ vs) (items.drop i) v2.st = .ok rest s9 ∧ acc ++ rest = xs, ?_, ?_⟩
    · obtain ⟨v2, e2, l2, s2, a2, es⟩ := start
      exact ⟨items.length, by simp, Nat.zero_le _, v2, [], xs, [], e2, l2, s2, a2, .nil, by rw [es]; exact q1, rfl⟩
    rintro i m H2 ⟨rfl, hi, v2, acc, rest, va, rfl, l2, s2, a2, ra, el, ex⟩
    have hst : Stl wk v2.st := by
      cases e9 : items.drop i with
      | nil =>
        rw [e9] at el
        simp only [lcO] at el
        by_cases z : Stl wk v2.st
        · exact z
        · rw [if_neg z] at el; exact nomatch el
      | cons d ds =>
        rw [e9] at el
        simp only [lcO] at el
        by_cases z : Stl wk v2.st
        · exact z
        · rw [if_neg z] at el; exact nomatch el
    by_cases hlt : i < items.length
    · refine .inr ⟨ok.go i v2 l2 s2 hst (by rw [hit]; exact hlt), fun H3 => ∃ (v2 : Vw) (acc rest : List D) (va : List V), v2.H = H3 ∧ Le v1 v2 ∧ SR K C.ct v2 ∧ Aside v2 L va ∧ RepL K C.ct v2.G v2.m acc va ∧
        lcO wk p c e (wipeD δ vs) (items.drop (i + 1)) v2.st = .ok rest s9 ∧ acc ++ rest = xs, fun H' n => ⟨items.length - (i + 1), by omega, rfl, hlt, n⟩, fun x H' y => ?_⟩
      obtain ⟨d, v3, ed, rfl, l3, s3, e3, r3⟩ := ok.yld i v2 x H' l2 s2 hst (by rw [hit]; exact hlt) y
      rw [hit] at ed
      have ed2 : items.drop i = d :: items.drop (i + 1) := by
        rw [List.drop_eq_getElem_cons hlt]
        rw [List.getElem?_eq_getElem hlt] at ed
        rw [Option.some.inj ed]
      rw [ed2] at el
      simp only [lcO] at el
      rw [if_pos hst] at el
      cases eb : bindP p d (wipeD δ vs) with
      | none => rw [eb] at el; exact nomatch el
      | some δ1 =>
        rw [eb] at el
        simp only at el
        have re3 := (((re.step l1 sr1).step l2 s2).step l3 s3)
        refine ⟨d, wipeD δ vs, v3, δ1, (re3.wipe vs).wish _, rfl, r3, eb, fun σ4 re4 o4 => ⟨wipe_off o4 hp, δ1, v3, re4, rfl, ?_⟩⟩
        rw [e3]
        cases ec : c δ1 v2.st with
        | stk => rw [ec] at el; exact nomatch el
        | exc _ _ => rw [ec] at el; exact nomatch el
        | ok b s4 =>
          rw [ec] at el
          intro b2 v4 l4 s4' es4 eb2
          cases eb2
          cases b with
          | true =>
            rw [if_pos rfl]
            simp only at el
            refine ⟨δ1, v4, re4.step l4 s4', rfl, ?_⟩
            rw [es4]
            cases ee : e δ1 s4 with
            | stk => rw [ee] at el; exact nomatch el
            | exc _ _ => rw [ee] at el; exact nomatch el
            | ok y0 s5 =>
              rw [ee] at el
              intro y5 v5 l5 s5' es5 r5
              simp only at el
              cases er : lcO wk p c e (wipeD δ vs) (items.drop (i + 1)) s5 with
              | stk => rw [er] at el; exact nomatch el
              | exc _ _ => rw [er] at el; exact nomatch el
              | ok rest2 s6 =>
                rw [er] at el
                simp only [R.ok.injEq] at el
                obtain ⟨el, es6⟩ := el
                subst el
                subst es6
                have l25 := (l3.trans l4).trans l5
                have a5 := a2.step l25
                have hl := ra.length
                have hl2 : acc.length + (rest2.length + 1) = xs.length := by rw [← ex]; simp
                obtain ⟨s7, ow7⟩ := side_ok (u := .lst (va ++ [y5])) s5' a5.g a5.no
                refine ⟨va, a5.h, by omega, ⟨v5.G, upd v5.H L (.lst (va ++ [y5])), v5.m, v5.st⟩, acc ++ [y0], rest2, va ++ [y5], rfl, ?_, s7, ⟨upd_same, a5.g, fun q => a5.no (ow7 _ q)⟩, (l25.repl ra).append (RepL.one r5), ?_, by rw [List.append_assoc]; exact ex⟩
                · have l15 := l2.trans l25
                  exact ⟨l15.g, l15.m, fun b o hb nb => by
                    show upd v5.H L _ b = some o
                    rw [upd_ne (ne_of_none hb hD)]
                    exact l15.h b o hb nb, l15.nw, fun b q => l15.ow b (ow7 b q), fun b q => by
                    have q' : upd v5.H L (.lst (va ++ [y5])) b = none := q
                    by_cases z : b = L
                    · rw [z, upd_same] at q'; cases q'
                    · rw [upd_ne z] at q'
                      exact l15.al b q'⟩
                · show lcO wk p c e (wipeD δ vs) (items.drop (i + 1)) v5.st = .ok rest2 s6
                  rw [es5]
                  exact er
          | false =>
            rw [if_neg Bool.false_ne_true]
            simp only at el
            have l24 := l3.trans l4
            exact ⟨v4, acc, rest, va, rfl, l2.trans l24, s4', a2.step l24, l24.repl ra, by rw [es4]; exact el, ex⟩
    · have ei : i = items.length := by omega
      subst ei
      rw [List.drop_length] at el
      simp only [lcO] at el
      rw [if_pos hst] at el
      simp only [R.ok.injEq] at el
      obtain ⟨el, es⟩ := el
      subst el
      rw [List.append_nil] at ex
      subst ex
      exact .inl ⟨ok.stop _ v2 l2 s2 hst (by rw [hit]; exact Nat.le_refl _), fin va v2 l2 s2 es a2 ra⟩
variable {elt tg iter : Expr} {ifs : List Expr} {scope : Scope} {it : AsO} {p : Pt} {c : T} {e : E}
theorem sf_lcO (own : List (Str × Nat)) (hc : X.calm = true) (hN : X.N.Nodup) (hi : SIO X C tg iter it) (ok : BlkOk X.N X.env.scope scope own) (hp : ∀ i ∈ idxP p, i ∈ own.map (·.2))
    (hg : ∀ (s : Shared) (H : Hp) (c0 : Addr) (cl : List (Str × Addr)) (fp : List Addr), SG (X.blk s H scope (compEnvC scope cl c0 X.env) fp) C.nox tg p)
    (ht : ∀ (s : Shared) (H : Hp) (c0 : Addr) (cl : List (Str × Addr)) (fp : List Addr), STs (X.blk s H scope (compEnvC scope cl c0 X.env) fp) C.nox ifs c)
    (he : ∀ (s : Shared) (H : Hp) (c0 : Addr) (cl : List (Str × Addr)) (fp : List Addr), SE (X.blk s H scope (compEnvC scope cl c0 X.env) fp) C.nox elt e) (hs : ∀ x, foldedSetIterable iter X.env x = pure x := by intro _; rfl) :
    SF X C (.ListComp elt [⟨tg, iter, ifs, 0⟩] scope pos) (fLcO it (own.map (·.2)) p c e) :=
  pe_weak (pe_lc hc hN hi ok hg ht he hs) fun σ H Q h => lift_lcO hp h
theorem ss_setLcO (i : Nat) {g : Fr → E} {y : Str} {py spos : Pos} (own : List (Str × Nat)) (hgz : ∀ σ H Q, liftE X.K C (g (fLcO it (own.map (·.2)) p c e)) σ H Q → liftF X.K C (fLcO it (own.map (·.2)) p c e) σ H Q) (hc : X.calm = true) (hN : X.N.Nodup) (hy : X.N[i]? = some y) (hyl : X.env.scope.names.lookup y = some .local)
    (hsw : swapsWith (.ListComp elt [⟨tg, iter, ifs, 0⟩] scope pos) (some (.Name y py)) spos.line X.env = pure true) (hi : SIO X C tg iter it) (ok : BlkOk X.N X.env.scope scope own) (hp : ∀ i ∈ idxP p, i ∈ own.map (·.2))
    (hg : ∀ (s : Shared) (H : Hp) (c0 : Addr) (cl : List (Str × Addr)) (fp : List Addr), SG (X.blk s H scope (compEnvC scope cl c0 X.env) fp) C.nox tg p)
    (ht : ∀ (s : Shared) (H : Hp) (c0 : Addr) (cl : List (Str × Addr)) (fp : List Addr), STs (X.blk s H scope (compEnvC scope cl c0 X.env) fp) C.nox ifs c)
    (he : ∀ (s : Shared) (H : Hp) (c0 : Addr) (cl : List (Str × Addr)) (fp : List Addr), SE (X.blk s H scope (compEnvC scope cl c0 X.env) fp) C.nox elt e) (hs : ∀ x, foldedSetIterable iter X.env x = pure x := by intro _; rfl) :
    SS X C (.Assign [.Name y py] (.ListComp elt [⟨tg, iter, ifs, 0⟩] scope pos) spos) (sSet i (g (fLcO it (own.map (·.2)) p c e))) :=
  ps_weak (ps_setLc hc hN hy hyl hsw hi ok hg ht he hs) fun Dn σ H h => lift_setLc (g := g) (fun _ _ _ z => lift_lcO hp (hgz _ _ _ z)) h
end
@[simp] theorem v_sForO (it : AsO) (p : Pt) (b : S) (δ : Sl) (s : Sto) : sForO it p b δ s = sBind (it δ s) δ fun q s1 => forO q p b q.1 δ s1 := id rfl
@[simp] theorem v_iSeqO (f : E) (δ : Sl) (s : Sto) : iSeqO f δ s = (f δ s).bind fun d s1 => R.ofO (wkOf s1 d) s1 := id rfl
@[simp] theorem v_fLcO (it : AsO) (vs : List Nat) (p : Pt) (c : T) (e : E) (δ : Sl) (s : Sto) : fLcO it vs p c e δ s = (it δ s).bind fun q s1 => (lcO q p c e (wipeD δ vs) q.1 s1).bind fun xs s2 => if xs.length ≤ sizeLine then .ok xs s2 else .stk := id rfl
@[simp] theorem wk_lst (s : Sto) (xs : List D) : wkOf s (.lst xs) = some (xs, none) := id rfl
@[simp] theorem wk_tup (s : Sto) (xs : List D) : wkOf s (.tup xs) = some (xs, none) := id rfl
@[simp] theorem wk_str (s : Sto) (x : Str) : wkOf s (.str x) = some (signs x, none) := id rfl
theorem wk_ob {s : Sto} {k : Nat} {xs : List D} (h : s[k]? = some (.lst xs)) : wkOf s (.ob k) = some (xs, some k) := by simp only [wkOf, h]
@[simp] theorem wk_mid (s0 g : Sto) (xs : List D) : wkOf (s0 ++ .lst xs :: g) (.ob s0.length) = some (xs, some s0.length) := wk_ob (get_mid _ _ _)
theorem stl_none (xs : List D) (s : Sto) : Stl (xs, none) s := fun k h => nomatch h
theorem stl_some {xs : List D} {k : Nat} {s : Sto} (h : s[k]? = some (.lst xs)) : Stl (xs, some k) s := fun j e => by cases e; exact h
@[simp] theorem forO_none (xs : List D) (p : Pt) (b : S) : ∀ (ds : List D) (δ : Sl) (s : Sto), forO (xs, none) p b ds δ s = forD p b ds δ s
  | [], δ, s => by simp only [forO, forD, if_pos (stl_none xs s)]
  | d :: ds, δ, s => by
    simp only [forO, forD, if_pos (stl_none xs s)]
    cases bindP p d δ with
    | none => rfl
    | some δ1 =>
      simp only
      cases b δ1 s <;> first | rfl | exact forO_none xs p b ds _ _
@[simp] theorem lcO_none (xs : List D) (p : Pt) (c : T) (e : E) (δ : Sl) : ∀ (ds : List D) (s : Sto), lcO (xs, none) p c e δ ds s = lcD p c e δ ds s
  | [], s => by simp only [lcO, lcD, if_pos (stl_none xs s)]
  | d :: ds, s => by
    simp only [lcO, lcD, if_pos (stl_none xs s)]
    cases bindP p d δ with
    | none => rfl
    | some δ1 =>
      simp only
      cases hc : c δ1 s with
      | ok b s1 =>
        cases b with
        | true =>
          simp only
          cases he : e δ1 s1 with
          | ok y s2 =>
            simp only
            rw [lcO_none xs p c e δ ds s2]
            try (cases lcD p c e δ ds s2 <;> rfl)
          | _ => rfl
        | false => exact lcO_none xs p c e δ ds s1
      | _ => rfl
/-- where the walk leaves the store -/
theorem lcO_keep {q : Wk} {p : Pt} {c : T} {e : E} {δ : Sl} {s : Sto} (h : Stl q s) {α : Type} (g f : α → D) : ∀ l : List α, (∀ a ∈ l, ∃ δ1, bindP p (g a) δ = some δ1 ∧ c δ1 s = .ok true s ∧ e δ1 s = .ok (f a) s) → lcO q p c e δ (l.map g) s = .ok (l.map f) s
  | [], _ => by simp only [List.map_nil, lcO, if_pos h]
  | x :: l, hl => by
    obtain ⟨δ1, e1, e2, e3⟩ := hl x (by simp)
    have ih := lcO_keep h g f l fun a ha => hl a (by simp [ha])
    simp only [List.map_cons, lcO, if_pos h, e1, e2, e3, ih]
end Gs

/-! GC0: a call of a def without arguments. -/
namespace Gs
open PySem L2
section
variable {X : Cx} {C : Cc} {pos p : Pos} {x : Str} {k : Nat} {f : Addr} {fd : FuncData} {ps : List Str} {F : List D → Sto → R D}
theorem pe_callS0 {CX : CXT} {sp : Sp} {E : St → XK} (F : FnOk X.prog X.w X.K X.mg X.base CX k f fd ps sp) (hr : Room k X.A) (hg : Gl X x) (hm : X.mg x = some (.ref f)) (hk : PySem.W.keepIn X.K (.ref f) = true) (hb : Binds X.K fd ps []) (hx : ∀ σ, PassesAt CX X σ (E σ))
    (hdb : (x == ("__debug__" : Str)) = false := by decide) : PE X (.Call (.Name x p) [] [] pos) (tCallS sp E tNil) := by
  refine ⟨fun pins s σ H Q I h => ?_⟩
  refine wpAny_Call_Name_kw (ld_glob I hg hm ?_ hdb)
  exact PySem.W.callWith_K0 I.kIn hk (run_fnS (us := []) F hr hb (hx σ) I .nil h)
theorem se_call0 (hF : FnOk X.prog X.w X.K X.mg X.base (L2.CX X.prog X.w) k f fd ps (spG X.K C.ct 0 F)) (hr : Room k X.A) (tk : Takes X C.W) (hg : Gl X x) (hm : X.mg x = some (.ref f)) (hk : PySem.W.keepIn X.K (.ref f) = true) (hb : Binds X.K fd ps [])
    (hdb : (x == ("__debug__" : Str)) = false := by decide) : SE X C (.Call (.Name x p) [] [] pos) (eCall F aNil) :=
  pe_weak (pe_callS0 hF hr hg hm hk hb (fun σ => passAt tk σ) hdb) fun σ H Q ⟨δ, v, re, eH, h⟩ => by
    subst eH
    exact on_sp re.sr rfl .nil h
end
end Gs

namespace Law
open PySem L2 Gs
/-! the text by places -/
def topS (i : Nat) : Stmt := PySem.Challenge.pw_countgen_k81_deeds_of_their_own.main.body.getD i (.Pass ⟨0, 0, 0, 0⟩)
abbrev s_l_cell_at : Stmt := topS 10
abbrev N_l_cell_at : List Str := ["_law_script", "_law_k"]
abbrev P_l_cell_at : List Str := ["_law_script", "_law_k"]
theorem sc_l_cell_at : FnScope N_l_cell_at P_l_cell_at (defScope s_l_cell_at) := ⟨rfl, rfl, rfl, by decide +kernel, rfl, by decide +kernel, by decide +kernel⟩
abbrev s_l_copy : Stmt := topS 15
abbrev N_l_copy : List Str := ["_law_value", "_law_thing_here"]
abbrev P_l_copy : List Str := ["_law_value"]
theorem sc_l_copy : FnScope N_l_copy P_l_copy (defScope s_l_copy) := ⟨rfl, rfl, rfl, by decide +kernel, rfl, by decide +kernel, by decide +kernel⟩
abbrev s_l_deed : Stmt := topS 16
abbrev N_l_deed : List Str := ["_law_cell", "_law_pair"]
abbrev P_l_deed : List Str := ["_law_cell"]
theorem sc_l_deed : FnScope N_l_deed P_l_deed (defScope s_l_deed) := ⟨rfl, rfl, rfl, by decide +kernel, rfl, by decide +kernel, by decide +kernel⟩
abbrev s_l_further : Stmt := topS 11
abbrev N_l_further : List Str := ["_law_cell", "_law_many", "_law_most", "_law_number", "_law_found", "_law_k"]
abbrev P_l_further : List Str := ["_law_cell", "_law_many", "_law_most"]
theorem sc_l_further : FnScope N_l_further P_l_further (defScope s_l_further) := ⟨rfl, rfl, rfl, by decide +kernel, rfl, by decide +kernel, by decide +kernel⟩
abbrev s_l_mark : Stmt := topS 17
abbrev N_l_mark : List Str := ["_law_deed_here"]
abbrev P_l_mark : List Str := ["_law_deed_here"]
theorem sc_l_mark : FnScope N_l_mark P_l_mark (defScope s_l_mark) := ⟨rfl, rfl, rfl, by decide +kernel, rfl, by decide +kernel, by decide +kernel⟩
abbrev s_l_still : Stmt := topS 19
abbrev N_l_still : List Str := ["_law_begin", "_law_done"]
abbrev P_l_still : List Str := []
theorem sc_l_still : FnScope N_l_still P_l_still (defScope s_l_still) := ⟨rfl, rfl, rfl, by decide +kernel, rfl, by decide +kernel, by decide +kernel⟩
abbrev s_l_still__l_begin : Stmt := (defBody s_l_still).getD 0 (.Pass ⟨0, 0, 0, 0⟩)
abbrev K_l_still__l_begin : Clo := ⟨s_l_still__l_begin, "_law_begin", "_law_still.<locals>._law_begin", []⟩
abbrev s_l_still__l_done : Stmt := (defBody s_l_still).getD 1 (.Pass ⟨0, 0, 0, 0⟩)
abbrev K_l_still__l_done : Clo := ⟨s_l_still__l_done, "_law_done", "_law_still.<locals>._law_done", []⟩
def nm_l_still : Nat → Nat → Str := fun l _ => if l = 108 then "_law_still.<locals>._law_begin" else "_law_still.<locals>._law_done"
abbrev ys_l_still : List (Str × Nat) := []
abbrev s_l_thing : Stmt := topS 18
abbrev N_l_thing : List Str := ["_law_bad", "_law_begin", "_law_done"]
abbrev P_l_thing : List Str := ["_law_bad"]
theorem sc_l_thing : FnScope N_l_thing P_l_thing (defScope s_l_thing) := ⟨rfl, rfl, rfl, by decide +kernel, rfl, by decide +kernel, by decide +kernel⟩
abbrev s_l_thing__l_begin : Stmt := (defBody s_l_thing).getD 0 (.Pass ⟨0, 0, 0, 0⟩)
abbrev K_l_thing__l_begin : Clo := ⟨s_l_thing__l_begin, "_law_begin", "_law_thing.<locals>._law_begin", []⟩
abbrev s_l_thing__l_done : Stmt := (defBody s_l_thing).getD 1 (.Pass ⟨0, 0, 0, 0⟩)
abbrev K_l_thing__l_done : Clo := ⟨s_l_thing__l_done, "_law_done", "_law_thing.<locals>._law_done", ["_law_bad"]⟩
def nm_l_thing : Nat → Nat → Str := fun l _ => if l = 95 then "_law_thing.<locals>._law_begin" else "_law_thing.<locals>._law_done"
abbrev ys_l_thing : List (Str × Nat) := [("_law_bad", 0)]
abbrev s_l_whole : Stmt := topS 12
abbrev N_l_whole : List Str := ["_law_found"]
abbrev P_l_whole : List Str := ["_law_found"]
theorem sc_l_whole : FnScope N_l_whole P_l_whole (defScope s_l_whole) := ⟨rfl, rfl, rfl, by decide +kernel, rfl, by decide +kernel, by decide +kernel⟩
abbrev s_l_lists : Stmt := topS 13
abbrev N_l_lists : List Str := ["_law_value", "_law_found", "_law_thing_here"]
abbrev P_l_lists : List Str := ["_law_value"]
theorem sc_l_lists : FnScope N_l_lists P_l_lists (defScope s_l_lists) := ⟨rfl, rfl, rfl, by decide +kernel, rfl, by decide +kernel, by decide +kernel⟩
abbrev s_own_copy : Stmt := topS 1
abbrev N_own_copy : List Str := ["value", "thing"]
abbrev P_own_copy : List Str := ["value"]
theorem sc_own_copy : FnScope N_own_copy P_own_copy (defScope s_own_copy) := ⟨rfl, rfl, rfl, by decide +kernel, rfl, by decide +kernel, by decide +kernel⟩
abbrev s_is_row : Stmt := topS 3
abbrev N_is_row : List Str := ["thing"]
abbrev P_is_row : List Str := ["thing"]
theorem sc_is_row : FnScope N_is_row P_is_row (defScope s_is_row) := ⟨rfl, rfl, rfl, by decide +kernel, rfl, by decide +kernel, by decide +kernel⟩
abbrev s_one_kind : Stmt := topS 4
abbrev N_one_kind : List Str := ["one", "other"]
abbrev P_one_kind : List Str := ["one", "other"]
theorem sc_one_kind : FnScope N_one_kind P_one_kind (defScope s_one_kind) := ⟨rfl, rfl, rfl, by decide +kernel, rfl, by decide +kernel, by decide +kernel⟩
abbrev s_same : Stmt := topS 5
abbrev N_same : List Str := ["one", "other", "here", "there"]
abbrev P_same : List Str := ["one", "other"]
theorem sc_same : FnScope N_same P_same (defScope s_same) := ⟨rfl, rfl, rfl, by decide +kernel, rfl, by decide +kernel, by decide +kernel⟩
abbrev s_apart : Stmt := topS 7
abbrev N_apart : List Str := ["begin", "done", "model_begin", "model_done", "deeds", "state", "model_state", "place", "deed", "answer", "model_answer"]
abbrev P_apart : List Str := ["begin", "done", "model_begin", "model_done", "deeds"]
theorem sc_apart : FnScope N_apart P_apart (defScope s_apart) := ⟨rfl, rfl, rfl, by decide +kernel, rfl, by decide +kernel, by decide +kernel⟩
abbrev s_deed_judge : Stmt := topS 8
abbrev N_deed_judge : List Str := ["begin", "done", "model_begin", "model_done", "judge"]
abbrev P_deed_judge : List Str := ["begin", "done", "model_begin", "model_done"]
theorem sc_deed_judge : FnScope N_deed_judge P_deed_judge (defScope s_deed_judge) := ⟨rfl, rfl, rfl, by decide +kernel, rfl, by decide +kernel, by decide +kernel⟩
abbrev s_deed_judge__judge : Stmt := (defBody s_deed_judge).getD 0 (.Pass ⟨0, 0, 0, 0⟩)
abbrev K_deed_judge__judge : Clo := ⟨s_deed_judge__judge, "judge", "deed_judge.<locals>.judge", ["begin", "done", "model_begin", "model_done"]⟩
def nm_deed_judge : Nat → Nat → Str := fun l _ => "deed_judge.<locals>.judge"
abbrev ys_deed_judge : List (Str × Nat) := [("begin", 0), ("done", 1), ("model_begin", 2), ("model_done", 3)]
abbrev s_law : Stmt := topS 20
abbrev N_law : List Str := ["_law_script", "_law_bad", "_law_at", "_law_more", "_law_deeds", "_law_kept", "_law_places", "_law_one", "_law_other", "_law_still_here", "_law_found", "_law_judge", "_law_beside", "_law_some", "_law_told", "_law_due", "_law_cell", "_law_k"]
abbrev P_law : List Str := ["_law_script"]
theorem sc_law : FnScope N_law P_law (defScope s_law) := ⟨rfl, rfl, rfl, by decide +kernel, rfl, by decide +kernel, by decide +kernel⟩
abbrev N_l_still__l_begin : List Str := []
abbrev P_l_still__l_begin : List Str := []
theorem sc_l_still__l_begin : NdefX.NScope N_l_still__l_begin P_l_still__l_begin [] (C8.fnScope s_l_still__l_begin) := NdefX.nscope_by (by decide +kernel)
abbrev N_l_still__l_done : List Str := ["_law_state", "_law_deed_here"]
abbrev P_l_still__l_done : List Str := ["_law_state", "_law_deed_here"]
theorem sc_l_still__l_done : NdefX.NScope N_l_still__l_done P_l_still__l_done [] (C8.fnScope s_l_still__l_done) := NdefX.nscope_by (by decide +kernel)
abbrev N_l_thing__l_begin : List Str := []
abbrev P_l_thing__l_begin : List Str := []
theorem sc_l_thing__l_begin : NdefX.NScope N_l_thing__l_begin P_l_thing__l_begin [] (C8.fnScope s_l_thing__l_begin) := NdefX.nscope_by (by decide +kernel)
abbrev N_l_thing__l_done : List Str := ["_law_state", "_law_deed_here", "_law_bad", "_law_some", "_law_answer", "_law_one"]
abbrev P_l_thing__l_done : List Str := ["_law_state", "_law_deed_here"]
theorem sc_l_thing__l_done : NdefX.NScope N_l_thing__l_done P_l_thing__l_done ["_law_bad"] (C8.fnScope s_l_thing__l_done) := NdefX.nscope_by (by decide +kernel)
abbrev N_deed_judge__judge : List Str := ["deeds", "begin", "done", "model_begin", "model_done"]
abbrev P_deed_judge__judge : List Str := ["deeds"]
theorem sc_deed_judge__judge : NdefX.NScope N_deed_judge__judge P_deed_judge__judge ["begin", "done", "model_begin", "model_done"] (C8.fnScope s_deed_judge__judge) := NdefX.nscope_by (by decide +kernel)
/-! what they say of data -/
noncomputable def S_l_cell_at : List D → Sto → R D := runG 2 (
    sSeq (sIf (tV (eBin gLt (eV 1) (eFn gLen (aCons (eV 0) (aNil))))) (sRet (eBin gIx (eV 0) (eV 1))) (sNx))
    (sRet (eC (.int 0))))
noncomputable def U_l_copy (c_l_copy : List D → Sto → R D) : List D → Sto → R D := runG 2 (
    sSeq (sIf (tV (eUn (gIsi "list") (eV 0))) (sRet (eFz (fLc (iSeq (eV 0)) [1] (.nm 1) (tTrue) (eCall c_l_copy (aCons (eV 1) (aNil)))))) (sNx))
    (sSeq (sIf (tV (eUn (gIsi "tuple") (eV 0))) (sRet (eFn gTuple (aCons (eFz (fLc (iSeq (eV 0)) [1] (.nm 1) (tTrue) (eCall c_l_copy (aCons (eV 1) (aNil))))) (aNil)))) (sNx))
    (sRet (eV 0))))
noncomputable def S_l_copy : Nat → List D → Sto → R D
  | 0 => fun _ _ => .stk
  | n + 1 => U_l_copy (S_l_copy n)
noncomputable def S_l_deed : List D → Sto → R D := runG 2 (
    sSeq (sSet 1 (eTup (aCons (eBin gMod (eV 0) (eC (.int 5))) (aCons (eFz (fRep (fLst (aCons (eBin gMod (eBin gDiv (eV 0) (eC (.int 15))) (eBin gPow (eC (.int 10)) (eC (.int 9)))) (aNil))) (eBin gMod (eBin gDiv (eV 0) (eC (.int 5))) (eC (.int 3))))) (aNil)))))
    (sSeq (sIf (tV (eBin gEq (eBin gMod (eBin gDiv (eV 0) (eC (.int 45))) (eC (.int 2))) (eC (.int 1)))) (sRet (eFz (fLst (aCons (eV 1) (aCons (eFz (fLst (aCons (eBin gMod (eBin gDiv (eV 0) (eC (.int 90))) (eC (.int 4))) (aNil)))) (aNil)))))) (sNx))
    (sRet (eV 1))))
noncomputable def L_l_further_0 : S := sSeq (sSet 3 (eBin gMod (eBin gMul (eV 3) (eC (.int 48271))) (eC (.int 2147483647))))
    (sDrop (eApp (eV 4) (eV 3)))
noncomputable def S_l_further : List D → Sto → R D := runG 6 (
    sSeq (sSet 3 (eBin gAdd (eBin gMod (eV 0) (eC (.int 2147483646))) (eC (.int 1))))
    (sSeq (sIf (tV (eBin gEq (eBin gMod (eBin gDiv (eV 0) (eC (.int 11))) (eC (.int 16))) (eC (.int 7)))) (sSet 1 (eV 2)) (sIf (tV (eBin gNe (eBin gMod (eBin gDiv (eV 0) (eC (.int 11))) (eC (.int 8))) (eC (.int 5)))) (sSet 1 (eC (.int 0))) (sNx)))
    (sSeq (sSet 4 (eNw (fLst (aNil))))
    (sSeq (sFor (iRange1 (aCons (eV 1) (aNil))) (.nm 5) (L_l_further_0))
    (sFrz 4 (sRet (eV 4)))))))
noncomputable def S_l_mark : List D → Sto → R D := runG 1 (
    sSeq (sIf (tV (eUn (gIsi "list") (eV 0))) (sRet (eBin gIx (eBin gIx (eV 0) (eC (.int 0))) (eC (.int 0)))) (sNx))
    (sRet (eBin gIx (eV 0) (eC (.int 0)))))
noncomputable def S_l_still : List D → Sto → R D := runC 2 (
    rRet2 0 "tab_l_still" nm_l_still K_l_still__l_begin [] K_l_still__l_done [])
noncomputable def S_l_thing : List D → Sto → R D := runC 3 (
    rRet2 1 "tab_l_thing" nm_l_thing K_l_thing__l_begin [] K_l_thing__l_done [0])
noncomputable def S_l_whole : List D → Sto → R D := runG 1 (
    sRet (eAn (eUn (gIsi "int") (eV 0)) (eNt (eUn (gIsi "bool") (eV 0)))))
noncomputable def S_l_still__l_begin : List D → List D → Sto → R D := runN 0 (
    sRet (eC .non))
noncomputable def S_l_still__l_done : List D → List D → Sto → R D := runN 2 (
    sRet (eTup (aCons (eV 0) (aCons (eC .non) (aNil)))))
noncomputable def S_l_thing__l_begin : List D → List D → Sto → R D := runN 0 (
    sRet (eNw (fLst (aNil))))
noncomputable def L_l_lists_0 (c_l_lists : List D → Sto → R D) : S := sDrop (eExt (eV 1) (eCall c_l_lists (aCons (eV 2) (aNil))))
noncomputable def U_l_lists (c_l_lists : List D → Sto → R D) : List D → Sto → R D := runG 3 (
    sSeq (sSet 1 (eNw (fLst (aNil))))
    (sSeq (sIf (tV (eUn (gIsi "list") (eV 0))) (sDrop (eApp (eV 1) (eV 0))) (sNx))
    (sSeq (sIf (tOrr (tV (eUn (gIsi "list") (eV 0))) (tV (eUn (gIsi "tuple") (eV 0)))) (sForO (iSeqO (eV 0)) (.nm 2) (L_l_lists_0 c_l_lists)) (sNx))
    (sRet (eV 1)))))
noncomputable def S_l_lists : Nat → List D → Sto → R D
  | 0 => fun _ _ => .stk
  | n + 1 => U_l_lists (S_l_lists n)
noncomputable def L_l_thing__l_done_0 : S := sDrop (eApp (eV 5) (eC (.int 0)))
noncomputable def S_l_thing__l_done : List D → List D → Sto → R D := runN 6 (
    sSeq (sSet 3 (eCall (S_l_lists 20) (aCons (eV 1) (aNil))))
    (sSeq (sSet 4 (eFz (fLst (aCons (eFn gLen (aCons (eV 3) (aNil))) (aCons (eBin gAdd (eFn gSumA (aCons (eFz (fLcO (iSeqO (eV 3)) [5] (.nm 5) (tTrue) (eFn gLen (aCons (eV 5) (aNil))))) (aNil))) (eFn gInt (aCons (eBin gEq (eCall S_l_mark (aCons (eV 1) (aNil))) (eV 2)) (aNil)))) (aCons (eFn gLen (aCons (eV 0) (aNil))) (aNil)))))))
    (sSeq (sForO (iSeqO (eV 3)) (.nm 5) (L_l_thing__l_done_0))
    (sSeq (sDrop (eApp (eV 0) (eC (.int 1))))
    (sRet (eTup (aCons (eV 0) (aCons (eV 4) (aNil)))))))))
noncomputable def U_own_copy (c_own_copy : List D → Sto → R D) : List D → Sto → R D := runG 2 (
    sSeq (sIf (tV (eUn (gIsi "list") (eV 0))) (sRet (eNw (fLc (iSeq (eV 0)) [1] (.nm 1) (tTrue) (eCall c_own_copy (aCons (eV 1) (aNil)))))) (sNx))
    (sSeq (sIf (tV (eUn (gIsi "tuple") (eV 0))) (sRet (eFn gTuple (aCons (eFz (fLc (iSeq (eV 0)) [1] (.nm 1) (tTrue) (eCall c_own_copy (aCons (eV 1) (aNil))))) (aNil)))) (sNx))
    (sRet (eV 0))))
noncomputable def S_own_copy : Nat → List D → Sto → R D
  | 0 => fun _ _ => .stk
  | n + 1 => U_own_copy (S_own_copy n)
noncomputable def S_is_row : List D → Sto → R D := runG 1 (
    sRet (eUn (gIsi2 "list" "tuple") (eV 0)))
noncomputable def S_one_kind : List D → Sto → R D := runG 2 (
    sSeq (sIf (tOrr (tV (eBin gIsN (eV 0) (eC .non))) (tV (eBin gIsN (eV 1) (eC .non)))) (sRet (eAn (eBin gIsN (eV 0) (eC .non)) (eBin gIsN (eV 1) (eC .non)))) (sNx))
    (sSeq (sIf (tOrr (tV (eUn (gIsi "bool") (eV 0))) (tV (eUn (gIsi "bool") (eV 1)))) (sRet (eAn (eUn (gIsi "bool") (eV 0)) (eUn (gIsi "bool") (eV 1)))) (sNx))
    (sSeq (sIf (tV (eUn (gIsi "int") (eV 0))) (sRet (eUn (gIsi "int") (eV 1))) (sNx))
    (sSeq (sIf (tV (eUn (gIsi "str") (eV 0))) (sRet (eUn (gIsi "str") (eV 1))) (sNx))
    (sSeq (sIf (tV (eUn (gIsi "list") (eV 0))) (sRet (eUn (gIsi "list") (eV 1))) (sNx))
    (sRet (eAn (eUn (gIsi "tuple") (eV 0)) (eUn (gIsi "tuple") (eV 1)))))))))
noncomputable def U_same (c_same : List D → Sto → R D) : List D → Sto → R D := runG 4 (
    sSeq (sIf (tNt (tV (eCall S_one_kind (aCons (eV 0) (aCons (eV 1) (aNil)))))) (sRet (eC (.bl false))) (sNx))
    (sSeq (sIf (tNt (tV (eCall S_is_row (aCons (eV 0) (aNil))))) (sRet (eBin gEq (eV 0) (eV 1))) (sNx))
    (sSeq (sIf (tV (eBin gNe (eFn gLen (aCons (eV 0) (aNil))) (eFn gLen (aCons (eV 1) (aNil))))) (sRet (eC (.bl false))) (sNx))
    (sRet (eFn gAll (aCons (eFz (fLc (iZipD (aCons (eV 0) (aCons (eV 1) (aNil)))) [2, 3] (.tp [.nm 2, .nm 3]) (tTrue) (eCall c_same (aCons (eV 2) (aCons (eV 3) (aNil)))))) (aNil)))))))
noncomputable def S_same : Nat → List D → Sto → R D
  | 0 => fun _ _ => .stk
  | n + 1 => U_same (S_same n)
noncomputable def L_apart_0 : S := sSeq (sAsg (.tp [.nm 5, .nm 9]) (eClo (ctAdd K_l_still__l_done S_l_still__l_done (ctAdd K_l_thing__l_done S_l_thing__l_done ctNil)) 1 (aCons (eV 5) (aCons (eCall (S_own_copy 20) (aCons (eV 8) (aNil))) (aNil)))))
    (sSeq (sAsg (.tp [.nm 6, .nm 10]) (eClo (ctAdd K_l_still__l_done S_l_still__l_done (ctAdd K_l_thing__l_done S_l_thing__l_done ctNil)) 3 (aCons (eV 6) (aCons (eCall (S_own_copy 20) (aCons (eV 8) (aNil))) (aNil)))))
    (sIf (tNt (tV (eCall (S_same 20) (aCons (eV 9) (aCons (eV 10) (aNil)))))) (sRet (eV 7)) (sNx)))
noncomputable def S_apart : List D → Sto → R D := runG 11 (
    sSeq (sSet 5 (eClo (ctAdd K_l_still__l_begin S_l_still__l_begin (ctAdd K_l_thing__l_begin S_l_thing__l_begin ctNil)) 0 aNil))
    (sSeq (sSet 6 (eClo (ctAdd K_l_still__l_begin S_l_still__l_begin (ctAdd K_l_thing__l_begin S_l_thing__l_begin ctNil)) 2 aNil))
    (sSeq (sFor (iEnumD (aCons (eV 4) (aNil))) (.tp [.nm 7, .nm 8]) (L_apart_0))
    (sRet (eC .non)))))
noncomputable def S_deed_judge : List D → Sto → R D := runC 5 (
    rRet1 2 "tab_deed_judge" nm_deed_judge K_deed_judge__judge [0, 1, 2, 3])
noncomputable def S_deed_judge__judge : List D → List D → Sto → R D := runN 5 (
    sRet (eBin gIsN (eCall S_apart (aCons (eV 1) (aCons (eV 2) (aCons (eV 3) (aCons (eV 4) (aCons (eV 0) (aNil))))))) (eC .non)))
noncomputable def L_law_0 : S := sSeq (sSet 14 (eClo (ctAdd K_deed_judge__judge S_deed_judge__judge ctNil) 11 (aCons (eV 13) (aNil))))
    (sSeq (sSet 15 (eBin gEq (eFz (fLc (iRange1 (aCons (eFn gLen (aCons (eV 13) (aNil))) (aNil))) [17] (.nm 17) (tV (eBin gEq (eCall S_l_mark (aCons (eBin gIx (eV 13) (eV 17)) (aNil))) (eV 1))) (eV 17))) (eFz (fLst (aNil)))))
    (sIf (tOrr (tNt (tV (eUn (gIsi "bool") (eV 14)))) (tOrr (tV (eBin gNe (eV 14) (eV 15))) (tV (eBin gNotB (eClo (ctAdd K_deed_judge__judge S_deed_judge__judge ctNil) 12 (aCons (eV 13) (aNil))) (eC (.bl true)))))) (sRet (eC (.bl false))) (sNx)))
noncomputable def S_law : List D → Sto → R D := runG 18 (
    sSeq (sSet 1 (eBin gMod (eCall S_l_cell_at (aCons (eV 0) (aCons (eC (.int 0)) (aNil)))) (eC (.int 10))))
    (sSeq (sSet 2 (eBin gMod (eCall S_l_cell_at (aCons (eV 0) (aCons (eC (.int 1)) (aNil)))) (eC (.int 40))))
    (sSeq (sSet 3 (eCall S_l_further (aCons (eCall S_l_cell_at (aCons (eV 0) (aCons (eC (.int 1)) (aNil)))) (aCons (eC (.int 60)) (aCons (eC (.int 1100)) (aNil))))))
    (sSeq (sSet 4 (eFz (fLc (iSeq (eSl (eBin gAdd (eSl (eV 0) (oSome (eC (.int 2))) (oNone)) (eV 3)) (oNone) (oSome (eC (.int 1200))))) [16] (.nm 16) (tTrue) (eCall S_l_deed (aCons (eV 16) (aNil))))))
    (sSeq (sSet 5 (eCall (S_l_copy 20) (aCons (eV 4) (aNil))))
    (sSeq (sSet 6 (eFz (fLc (iRange1 (aCons (eFn gLen (aCons (eV 5) (aNil))) (aNil))) [17] (.nm 17) (tV (eBin gEq (eCall S_l_mark (aCons (eBin gIx (eV 5) (eV 17)) (aNil))) (eV 1))) (eV 17))))
    (sSeq (sSet 7 (eCall S_l_thing (aCons (eUn gNeg (eC (.int 1))) (aNil))))
    (sSeq (sSet 8 (eCall S_l_thing (aCons (eV 1) (aNil))))
    (sSeq (sSet 9 (eCall S_l_still aNil))
    (sSeq (sSet 10 (eCall S_apart (aCons (eBin gIx (eV 7) (eC (.int 0))) (aCons (eBin gIx (eV 7) (eC (.int 1))) (aCons (eBin gIx (eV 8) (eC (.int 0))) (aCons (eBin gIx (eV 8) (eC (.int 1))) (aCons (eV 4) (aNil))))))))
    (sSeq (sIf (tV (eBin gEq (eV 6) (eFz (fLst (aNil))))) (sIf (tV (eBin gNotN (eV 10) (eC .non))) (sRet (eC (.bl false))) (sNx)) (sIf (tOrr (tNt (tV (eCall S_l_whole (aCons (eV 10) (aNil))))) (tV (eBin gNe (eV 10) (eBin gIx (eV 6) (eC (.int 0)))))) (sRet (eC (.bl false))) (sNx)))
    (sSeq (sSet 11 (eCall S_deed_judge (aCons (eBin gIx (eV 7) (eC (.int 0))) (aCons (eBin gIx (eV 7) (eC (.int 1))) (aCons (eBin gIx (eV 8) (eC (.int 0))) (aCons (eBin gIx (eV 8) (eC (.int 1))) (aNil)))))))
    (sSeq (sSet 12 (eCall S_deed_judge (aCons (eBin gIx (eV 9) (eC (.int 0))) (aCons (eBin gIx (eV 9) (eC (.int 1))) (aCons (eBin gIx (eV 9) (eC (.int 0))) (aCons (eBin gIx (eV 9) (eC (.int 1))) (aNil)))))))
    (sSeq (sFor (iSeq (eFz (fLst (aCons (eV 4) (aCons (eSl (eV 4) (oNone) (oSome (eV 2))) (aCons (eSl (eV 4) (oSome (eC (.int 1))) (oSome (eBin gAdd (eV 2) (eC (.int 1))))) (aCons (eV 4) (aNil)))))))) (.nm 13) (L_law_0))
    (sRet (eBin gEq (eV 4) (eV 5)))))))))))))))))
/-! they keep it -/
section
variable {P : Program} {w : World} {K : PySem.W.Frag} {mg : Str → Option Value} {base : Heap} {ct : String → Addr}
set_option maxHeartbeats 4000000 in
theorem ok_l_cell_at {a : Addr} {fd : FuncData} (F : L2.Fun K "_law_cell_at" "_law_cell_at" s_l_cell_at a fd) (Z_len : mg "len" = none) :
    FnOk P w K mg base (L2.CX P w) 1 a fd P_l_cell_at (spG K ct 2 S_l_cell_at) := by
  refine fn_ok (N := N_l_cell_at) (ct := ct) F sc_l_cell_at (by decide) (fun cdv A outer s H v E hr => ?_)
  have nd := sc_l_cell_at.nd
  exact ss_cons (ss_if (st_cmp o_lt (se_var 1) (se_callB (b_len) rfl Z_len (by decide +kernel) (sa_cons (se_var 0) (sa_nil)))) (ss_one (ss_ret (se_ix (se_var 0) (se_var 1)))) (ss_nil))
    (ss_one (ss_ret (se_int)))
set_option maxHeartbeats 4000000 in
theorem ok_l_copy {a : Addr} {fd : FuncData} (F : L2.Fun K "_law_copy" "_law_copy" s_l_copy a fd) {k : Nat} (hk : 0 ≤ k) {c_l_copy : List D → Sto → R D} {a_l_copy : Addr} {f_l_copy : FuncData} (G_l_copy : FnOk P w K mg base (L2.CX P w) k a_l_copy f_l_copy P_l_copy (spG K ct 1 c_l_copy)) (M_l_copy : mg "_law_copy" = some (.ref a_l_copy)) (K_l_copy : PySem.W.keepIn K (.ref a_l_copy) = true) (B_l_copy : Binds K f_l_copy P_l_copy []) (Z_isinstance : mg "isinstance" = none) (Z_list : mg "list" = none) (Z_tuple : mg "tuple" = none) :
    FnOk P w K mg base (L2.CX P w) (k + 1) a fd P_l_copy (spG K ct 1 (U_l_copy c_l_copy)) := by
  refine fn_ok (N := N_l_copy) (ct := ct) F sc_l_copy (by decide) (fun cdv A outer s H v E hr => ?_)
  have nd := sc_l_copy.nd
  exact ss_cons (ss_if (st_val (se_isi (n := "list") (se_var 0) rfl Z_isinstance rfl Z_list (by decide +kernel))) (ss_one (ss_ret (SF.fz (sf_lc [("_law_thing_here", 1)] rfl nd (si_seq (se_var 0)) (blkOk_by (by change blkC N_l_copy (defScope s_l_copy) _ _ = true; decide +kernel)) (by decide) (fun _ _ _ _ _ => sg_name 1 nd) (fun _ _ _ _ _ => sts_nil) (fun _ _ _ _ _ => se_call G_l_copy (hr) takes0 rfl M_l_copy K_l_copy B_l_copy (sa_cons (se_var 1) (sa_nil)) (lenA_cons (lenA_nil))))))) (ss_nil))
    (ss_cons (ss_if (st_val (se_isi (n := "tuple") (se_var 0) rfl Z_isinstance rfl Z_tuple (by decide +kernel))) (ss_one (ss_ret (se_callT (b_tuple) rfl Z_tuple (by decide +kernel) (sa_cons (SF.fz (sf_lc [("_law_thing_here", 1)] rfl nd (si_seq (se_var 0)) (blkOk_by (by change blkC N_l_copy (defScope s_l_copy) _ _ = true; decide +kernel)) (by decide) (fun _ _ _ _ _ => sg_name 1 nd) (fun _ _ _ _ _ => sts_nil) (fun _ _ _ _ _ => se_call G_l_copy (hr) takes0 rfl M_l_copy K_l_copy B_l_copy (sa_cons (se_var 1) (sa_nil)) (lenA_cons (lenA_nil))))) (sa_nil))))) (ss_nil))
    (ss_one (ss_ret (se_var 0))))
set_option maxHeartbeats 4000000 in
theorem ok_l_deed {a : Addr} {fd : FuncData} (F : L2.Fun K "_law_deed" "_law_deed" s_l_deed a fd) :
    FnOk P w K mg base (L2.CX P w) 1 a fd P_l_deed (spG K ct 1 S_l_deed) := by
  refine fn_ok (N := N_l_deed) (ct := ct) F sc_l_deed (by decide) (fun cdv A outer s H v E hr => ?_)
  have nd := sc_l_deed.nd
  exact ss_cons (ss_set 1 (se_tup (sa_cons (se_bin o_mod (se_var 0) (se_int)) (sa_cons (SF.fz (sf_rep (sf_lst (sa_cons (se_bin o_mod (se_bin o_div (se_var 0) (se_int)) (se_bin o_pow (se_int) (se_int))) (sa_nil))) (se_bin o_mod (se_bin o_div (se_var 0) (se_int)) (se_int)))) (sa_nil)))) nd)
    (ss_cons (ss_if (st_cmp (o_eq (hu_big hr)) (se_bin o_mod (se_bin o_div (se_var 0) (se_int)) (se_int)) (se_int)) (ss_one (ss_ret (SF.fz (sf_lst (sa_cons (se_var 1) (sa_cons (SF.fz (sf_lst (sa_cons (se_bin o_mod (se_bin o_div (se_var 0) (se_int)) (se_int)) (sa_nil)))) (sa_nil))))))) (ss_nil))
    (ss_one (ss_ret (se_var 1))))
set_option maxHeartbeats 4000000 in
theorem ok_l_further {a : Addr} {fd : FuncData} (F : L2.Fun K "_law_further" "_law_further" s_l_further a fd) (Z_range : mg "range" = none) :
    FnOk P w K mg base (L2.CX P w) 1 a fd P_l_further (spG K ct 3 S_l_further) := by
  refine fn_ok (N := N_l_further) (ct := ct) F sc_l_further (by decide) (fun cdv A outer s H v E hr => ?_)
  have nd := sc_l_further.nd
  exact ss_cons (ss_set 3 (se_bin o_add (se_bin o_mod (se_var 0) (se_int)) (se_int)) nd)
    (ss_cons (ss_if (st_cmp (o_eq (hu_big hr)) (se_bin o_mod (se_bin o_div (se_var 0) (se_int)) (se_int)) (se_int)) (ss_one (ss_set 1 (se_var 2) nd)) (ss_one (ss_if (st_cmp (o_ne (hu_big hr)) (se_bin o_mod (se_bin o_div (se_var 0) (se_int)) (se_int)) (se_int)) (ss_one (ss_set 1 (se_int) nd)) (ss_nil))))
    (ss_cons (ss_set 4 (SF.nw (sf_lst (sa_nil))) nd)
    (ss_cons (ss_for (passes_of rfl) rfl (si_range1 rfl Z_range (sa_cons (se_var 1) (sa_nil))) (sg_name 5 nd) (ss_cons (ss_set 3 (se_bin o_mod (se_bin o_mul (se_var 3) (se_int)) (se_int)) nd)
    (ss_one (ss_expr (se_app (se_var 4) (se_var 3))))))
    (ss_one (ss_frz 4 (ss_ret (se_var 4)))))))
set_option maxHeartbeats 4000000 in
theorem ok_l_mark {a : Addr} {fd : FuncData} (F : L2.Fun K "_law_mark" "_law_mark" s_l_mark a fd) (Z_isinstance : mg "isinstance" = none) (Z_list : mg "list" = none) :
    FnOk P w K mg base (L2.CX P w) 1 a fd P_l_mark (spG K ct 1 S_l_mark) := by
  refine fn_ok (N := N_l_mark) (ct := ct) F sc_l_mark (by decide) (fun cdv A outer s H v E hr => ?_)
  have nd := sc_l_mark.nd
  exact ss_cons (ss_if (st_val (se_isi (n := "list") (se_var 0) rfl Z_isinstance rfl Z_list (by decide +kernel))) (ss_one (ss_ret (se_ix (se_ix (se_var 0) (se_int)) (se_int)))) (ss_nil))
    (ss_one (ss_ret (se_ix (se_var 0) (se_int))))
set_option maxHeartbeats 4000000 in
theorem ok_l_still {a : Addr} {fd : FuncData} {cc : Addr} (F : FunC K "_law_still" "_law_still" s_l_still a fd cc) (TB : LamX.TabB base mg cc (ct "tab_l_still")) :
    FnOk P w K mg base (L2.CX P w) 1 a fd P_l_still (spG K ct 0 S_l_still) := by
  refine fn_okC (N := N_l_still) (ct := ct) (ys := ys_l_still) F sc_l_still (by decide) (by decide +kernel) (fun A outer s H v E hr W => ?_)
  have nd := sc_l_still.nd
  exact rr_ret2 (i := 0) (i2 := 1) (k := K_l_still__l_begin) (k2 := K_l_still__l_done) (nm := nm_l_still) (x := "tab_l_still") ⟨rfl, rfl, rfl, rfl, rfl, rfl, rfl, rfl, rfl⟩ (cap_by (by change capB (defScope s_l_still) (C8.fnScope s_l_still__l_begin) [] [] ys_l_still = true; decide +kernel)) ⟨rfl, rfl, rfl, rfl, rfl, rfl, rfl, rfl, rfl⟩ (cap_by (by change capB (defScope s_l_still) (C8.fnScope s_l_still__l_done) [] [] ys_l_still = true; decide +kernel)) W TB rfl (by decide) (by decide) (by decide) (by decide) (by decide)
set_option maxHeartbeats 4000000 in
theorem ok_l_thing {a : Addr} {fd : FuncData} {cc : Addr} (F : FunC K "_law_thing" "_law_thing" s_l_thing a fd cc) (TB : LamX.TabB base mg cc (ct "tab_l_thing")) :
    FnOk P w K mg base (L2.CX P w) 1 a fd P_l_thing (spG K ct 1 S_l_thing) := by
  refine fn_okC (N := N_l_thing) (ct := ct) (ys := ys_l_thing) F sc_l_thing (by decide) (by decide +kernel) (fun A outer s H v E hr W => ?_)
  have nd := sc_l_thing.nd
  exact rr_ret2 (i := 1) (i2 := 2) (k := K_l_thing__l_begin) (k2 := K_l_thing__l_done) (nm := nm_l_thing) (x := "tab_l_thing") ⟨rfl, rfl, rfl, rfl, rfl, rfl, rfl, rfl, rfl⟩ (cap_by (by change capB (defScope s_l_thing) (C8.fnScope s_l_thing__l_begin) [] [] ys_l_thing = true; decide +kernel)) ⟨rfl, rfl, rfl, rfl, rfl, rfl, rfl, rfl, rfl⟩ (cap_by (by change capB (defScope s_l_thing) (C8.fnScope s_l_thing__l_done) ["_law_bad"] [0] ys_l_thing = true; decide +kernel)) W TB rfl (by decide) (by decide) (by decide) (by decide) (by decide)
set_option maxHeartbeats 4000000 in
theorem ok_l_whole {a : Addr} {fd : FuncData} (F : L2.Fun K "_law_whole" "_law_whole" s_l_whole a fd) (Z_bool : mg "bool" = none) (Z_int : mg "int" = none) (Z_isinstance : mg "isinstance" = none) :
    FnOk P w K mg base (L2.CX P w) 1 a fd P_l_whole (spG K ct 1 S_l_whole) := by
  refine fn_ok (N := N_l_whole) (ct := ct) F sc_l_whole (by decide) (fun cdv A outer s H v E hr => ?_)
  have nd := sc_l_whole.nd
  exact ss_one (ss_ret (se_and (se_isi (n := "int") (se_var 0) rfl Z_isinstance rfl Z_int (by decide +kernel)) (se_one (se_nt (se_isi (n := "bool") (se_var 0) rfl Z_isinstance rfl Z_bool (by decide +kernel))))))
set_option maxHeartbeats 4000000 in
theorem okn_l_still__l_begin  :
    ∀ f cl cc, NdefX.NOk P w K mg base (L2.CX P w) 1 f (NdefX.NF.of s_l_still__l_begin "_law_begin" "_law_still.<locals>._law_begin" cl cc) P_l_still__l_begin [] (fun ws vs H Q E => ws.length = ([] : List Str).length ∧ spN K ct 0 S_l_still__l_begin ws vs H Q E) := by
  refine nk_ok (N := N_l_still__l_begin) (ct := ct) sc_l_still__l_begin (by decide) (fun cl c doc pm ctv us hl => match us, hl with | [], _ => rfl) (fun cl c f A outer s H E v hr => ?_)
  have nd := sc_l_still__l_begin.nd
  exact ss_one (ss_ret (se_non))
set_option maxHeartbeats 4000000 in
theorem okn_l_still__l_done  :
    ∀ f cl cc, NdefX.NOk P w K mg base (L2.CX P w) 1 f (NdefX.NF.of s_l_still__l_done "_law_done" "_law_still.<locals>._law_done" cl cc) P_l_still__l_done [] (fun ws vs H Q E => ws.length = ([] : List Str).length ∧ spN K ct 2 S_l_still__l_done ws vs H Q E) := by
  refine nk_ok (N := N_l_still__l_done) (ct := ct) sc_l_still__l_done (by decide) (fun cl c doc pm ctv us hl => match us, hl with | [_, _], _ => rfl) (fun cl c f A outer s H E v hr => ?_)
  have nd := sc_l_still__l_done.nd
  exact ss_one (ss_ret (se_tup (sa_cons (se_var 0) (sa_cons (se_non) (sa_nil)))))
set_option maxHeartbeats 4000000 in
theorem okn_l_thing__l_begin  :
    ∀ f cl cc, NdefX.NOk P w K mg base (L2.CX P w) 1 f (NdefX.NF.of s_l_thing__l_begin "_law_begin" "_law_thing.<locals>._law_begin" cl cc) P_l_thing__l_begin [] (fun ws vs H Q E => ws.length = ([] : List Str).length ∧ spN K ct 0 S_l_thing__l_begin ws vs H Q E) := by
  refine nk_ok (N := N_l_thing__l_begin) (ct := ct) sc_l_thing__l_begin (by decide) (fun cl c doc pm ctv us hl => match us, hl with | [], _ => rfl) (fun cl c f A outer s H E v hr => ?_)
  have nd := sc_l_thing__l_begin.nd
  exact ss_one (ss_ret (SF.nw (sf_lst (sa_nil))))
set_option maxHeartbeats 4000000 in
theorem ok_l_lists {a : Addr} {fd : FuncData} (F : L2.Fun K "_law_lists" "_law_lists" s_l_lists a fd) {k : Nat} (hk : 0 ≤ k) {c_l_lists : List D → Sto → R D} {a_l_lists : Addr} {f_l_lists : FuncData} (G_l_lists : FnOk P w K mg base (L2.CX P w) k a_l_lists f_l_lists P_l_lists (spG K ct 1 c_l_lists)) (M_l_lists : mg "_law_lists" = some (.ref a_l_lists)) (K_l_lists : PySem.W.keepIn K (.ref a_l_lists) = true) (B_l_lists : Binds K f_l_lists P_l_lists []) (Z_isinstance : mg "isinstance" = none) (Z_list : mg "list" = none) (Z_tuple : mg "tuple" = none) :
    FnOk P w K mg base (L2.CX P w) (k + 1) a fd P_l_lists (spG K ct 1 (U_l_lists c_l_lists)) := by
  refine fn_ok (N := N_l_lists) (ct := ct) F sc_l_lists (by decide) (fun cdv A outer s H v E hr => ?_)
  have nd := sc_l_lists.nd
  exact ss_cons (ss_set 1 (SF.nw (sf_lst (sa_nil))) nd)
    (ss_cons (ss_if (st_val (se_isi (n := "list") (se_var 0) rfl Z_isinstance rfl Z_list (by decide +kernel))) (ss_one (ss_expr (se_app (se_var 1) (se_var 0)))) (ss_nil))
    (ss_cons (ss_if (PW.pt (sw_or (st_val (se_isi (n := "list") (se_var 0) rfl Z_isinstance rfl Z_list (by decide +kernel))) (sw_or1 (st_val (se_isi (n := "tuple") (se_var 0) rfl Z_isinstance rfl Z_tuple (by decide +kernel)))))) (ss_one (ss_forO (passes_of rfl) rfl (si_seqO (se_var 0)) (sg_name 2 nd) (ss_one (ss_expr (se_ext (se_var 1) (se_call G_l_lists (hr) (takes_of rfl rfl rfl rfl) rfl M_l_lists K_l_lists B_l_lists (sa_cons (se_var 2) (sa_nil)) (lenA_cons (lenA_nil)))))))) (ss_nil))
    (ss_one (ss_ret (se_var 1)))))
set_option maxHeartbeats 4000000 in
theorem okn_l_thing__l_done {a_l_lists : Addr} {f_l_lists : FuncData} (G_l_lists : FnOk P w K mg base (L2.CX P w) 20 a_l_lists f_l_lists P_l_lists (spG K ct 1 (S_l_lists 20))) (M_l_lists : mg "_law_lists" = some (.ref a_l_lists)) (K_l_lists : PySem.W.keepIn K (.ref a_l_lists) = true) (B_l_lists : Binds K f_l_lists P_l_lists []) {a_l_mark : Addr} {f_l_mark : FuncData} (G_l_mark : FnOk P w K mg base (L2.CX P w) 1 a_l_mark f_l_mark P_l_mark (spG K ct 1 S_l_mark)) (M_l_mark : mg "_law_mark" = some (.ref a_l_mark)) (K_l_mark : PySem.W.keepIn K (.ref a_l_mark) = true) (B_l_mark : Binds K f_l_mark P_l_mark []) (Z_int : mg "int" = none) (Z_len : mg "len" = none) (Z_sum : mg "sum" = none) :
    ∀ f cl cc, NdefX.NOk P w K mg base (L2.CX P w) 21 f (NdefX.NF.of s_l_thing__l_done "_law_done" "_law_thing.<locals>._law_done" cl cc) P_l_thing__l_done ["_law_bad"] (fun ws vs H Q E => ws.length = (["_law_bad"] : List Str).length ∧ spN K ct 2 S_l_thing__l_done ws vs H Q E) := by
  refine nk_ok (N := N_l_thing__l_done) (ct := ct) sc_l_thing__l_done (by decide) (fun cl c doc pm ctv us hl => match us, hl with | [_, _], _ => rfl) (fun cl c f A outer s H E v hr => ?_)
  have nd := sc_l_thing__l_done.nd
  exact ss_cons (ss_set 3 (se_call G_l_lists (hr.mono (by decide)) takes0 rfl M_l_lists K_l_lists B_l_lists (sa_cons (se_var 1) (sa_nil)) (lenA_cons (lenA_nil))) nd)
    (ss_cons (ss_set 4 (SF.fz (sf_lst (sa_cons (se_callB (b_len) rfl Z_len (by decide +kernel) (sa_cons (se_var 3) (sa_nil))) (sa_cons (se_bin o_add (se_callB (b_sumA rfl) rfl Z_sum (by decide +kernel) (sa_cons (SF.fz (sf_lcO [("_law_one", 5)] rfl nd (si_seqO (se_var 3)) (blkOk_by (by change blkC N_l_thing__l_done (C8.fnScope s_l_thing__l_done) _ _ = true; decide +kernel)) (by decide) (fun _ _ _ _ _ => sg_name 5 nd) (fun _ _ _ _ _ => sts_nil) (fun _ _ _ _ _ => se_callB (b_len) rfl Z_len (by decide +kernel) (sa_cons (se_var 5) (sa_nil))))) (sa_nil))) (se_callT (b_int) rfl Z_int (by decide +kernel) (sa_cons (se_cmp (o_eq (hu_big hr)) (se_call G_l_mark (hr.mono (by decide)) takes0 rfl M_l_mark K_l_mark B_l_mark (sa_cons (se_var 1) (sa_nil)) (lenA_cons (lenA_nil))) (se_var 2)) (sa_nil)))) (sa_cons (se_callB (b_len) rfl Z_len (by decide +kernel) (sa_cons (se_var 0) (sa_nil))) (sa_nil)))))) nd)
    (ss_cons (ss_forO (passes_of rfl) rfl (si_seqO (se_var 3)) (sg_name 5 nd) (ss_one (ss_expr (se_app (se_var 5) (se_int)))))
    (ss_cons (ss_expr (se_app (se_var 0) (se_int)))
    (ss_one (ss_ret (se_tup (sa_cons (se_var 0) (sa_cons (se_var 4) (sa_nil)))))))))
set_option maxHeartbeats 4000000 in
theorem ok_own_copy {a : Addr} {fd : FuncData} (F : L2.Fun K "own_copy" "own_copy" s_own_copy a fd) {k : Nat} (hk : 0 ≤ k) {c_own_copy : List D → Sto → R D} {a_own_copy : Addr} {f_own_copy : FuncData} (G_own_copy : FnOk P w K mg base (L2.CX P w) k a_own_copy f_own_copy P_own_copy (spG K ct 1 c_own_copy)) (M_own_copy : mg "own_copy" = some (.ref a_own_copy)) (K_own_copy : PySem.W.keepIn K (.ref a_own_copy) = true) (B_own_copy : Binds K f_own_copy P_own_copy []) (Z_isinstance : mg "isinstance" = none) (Z_list : mg "list" = none) (Z_tuple : mg "tuple" = none) :
    FnOk P w K mg base (L2.CX P w) (k + 1) a fd P_own_copy (spG K ct 1 (U_own_copy c_own_copy)) := by
  refine fn_ok (N := N_own_copy) (ct := ct) F sc_own_copy (by decide) (fun cdv A outer s H v E hr => ?_)
  have nd := sc_own_copy.nd
  exact ss_cons (ss_if (st_val (se_isi (n := "list") (se_var 0) rfl Z_isinstance rfl Z_list (by decide +kernel))) (ss_one (ss_ret (SF.nw (sf_lc [("thing", 1)] rfl nd (si_seq (se_var 0)) (blkOk_by (by change blkC N_own_copy (defScope s_own_copy) _ _ = true; decide +kernel)) (by decide) (fun _ _ _ _ _ => sg_name 1 nd) (fun _ _ _ _ _ => sts_nil) (fun _ _ _ _ _ => se_call G_own_copy (hr) takes0 rfl M_own_copy K_own_copy B_own_copy (sa_cons (se_var 1) (sa_nil)) (lenA_cons (lenA_nil))))))) (ss_nil))
    (ss_cons (ss_if (st_val (se_isi (n := "tuple") (se_var 0) rfl Z_isinstance rfl Z_tuple (by decide +kernel))) (ss_one (ss_ret (se_callT (b_tuple) rfl Z_tuple (by decide +kernel) (sa_cons (SF.fz (sf_lc [("thing", 1)] rfl nd (si_seq (se_var 0)) (blkOk_by (by change blkC N_own_copy (defScope s_own_copy) _ _ = true; decide +kernel)) (by decide) (fun _ _ _ _ _ => sg_name 1 nd) (fun _ _ _ _ _ => sts_nil) (fun _ _ _ _ _ => se_call G_own_copy (hr) takes0 rfl M_own_copy K_own_copy B_own_copy (sa_cons (se_var 1) (sa_nil)) (lenA_cons (lenA_nil))))) (sa_nil))))) (ss_nil))
    (ss_one (ss_ret (se_var 0))))
set_option maxHeartbeats 4000000 in
theorem ok_is_row {a : Addr} {fd : FuncData} (F : L2.Fun K "is_row" "is_row" s_is_row a fd) (Z_isinstance : mg "isinstance" = none) (Z_list : mg "list" = none) (Z_tuple : mg "tuple" = none) :
    FnOk P w K mg base (L2.CX P w) 1 a fd P_is_row (spG K ct 1 S_is_row) := by
  refine fn_ok (N := N_is_row) (ct := ct) F sc_is_row (by decide) (fun cdv A outer s H v E hr => ?_)
  have nd := sc_is_row.nd
  exact ss_one (ss_ret (se_isi2 (n := "list") (m := "tuple") (se_var 0) rfl Z_isinstance rfl Z_list (by decide +kernel) rfl Z_tuple (by decide +kernel)))
set_option maxHeartbeats 4000000 in
theorem ok_one_kind {a : Addr} {fd : FuncData} (F : L2.Fun K "one_kind" "one_kind" s_one_kind a fd) (Z_bool : mg "bool" = none) (Z_int : mg "int" = none) (Z_isinstance : mg "isinstance" = none) (Z_list : mg "list" = none) (Z_str : mg "str" = none) (Z_tuple : mg "tuple" = none) :
    FnOk P w K mg base (L2.CX P w) 1 a fd P_one_kind (spG K ct 2 S_one_kind) := by
  refine fn_ok (N := N_one_kind) (ct := ct) F sc_one_kind (by decide) (fun cdv A outer s H v E hr => ?_)
  have nd := sc_one_kind.nd
  exact ss_cons (ss_if (PW.pt (sw_or (st_cmp o_isN (se_var 0) (se_non)) (sw_or1 (st_cmp o_isN (se_var 1) (se_non))))) (ss_one (ss_ret (se_and (se_cmp o_isN (se_var 0) (se_non)) (se_one (se_cmp o_isN (se_var 1) (se_non)))))) (ss_nil))
    (ss_cons (ss_if (PW.pt (sw_or (st_val (se_isi (n := "bool") (se_var 0) rfl Z_isinstance rfl Z_bool (by decide +kernel))) (sw_or1 (st_val (se_isi (n := "bool") (se_var 1) rfl Z_isinstance rfl Z_bool (by decide +kernel)))))) (ss_one (ss_ret (se_and (se_isi (n := "bool") (se_var 0) rfl Z_isinstance rfl Z_bool (by decide +kernel)) (se_one (se_isi (n := "bool") (se_var 1) rfl Z_isinstance rfl Z_bool (by decide +kernel)))))) (ss_nil))
    (ss_cons (ss_if (st_val (se_isi (n := "int") (se_var 0) rfl Z_isinstance rfl Z_int (by decide +kernel))) (ss_one (ss_ret (se_isi (n := "int") (se_var 1) rfl Z_isinstance rfl Z_int (by decide +kernel)))) (ss_nil))
    (ss_cons (ss_if (st_val (se_isi (n := "str") (se_var 0) rfl Z_isinstance rfl Z_str (by decide +kernel))) (ss_one (ss_ret (se_isi (n := "str") (se_var 1) rfl Z_isinstance rfl Z_str (by decide +kernel)))) (ss_nil))
    (ss_cons (ss_if (st_val (se_isi (n := "list") (se_var 0) rfl Z_isinstance rfl Z_list (by decide +kernel))) (ss_one (ss_ret (se_isi (n := "list") (se_var 1) rfl Z_isinstance rfl Z_list (by decide +kernel)))) (ss_nil))
    (ss_one (ss_ret (se_and (se_isi (n := "tuple") (se_var 0) rfl Z_isinstance rfl Z_tuple (by decide +kernel)) (se_one (se_isi (n := "tuple") (se_var 1) rfl Z_isinstance rfl Z_tuple (by decide +kernel))))))))))
set_option maxHeartbeats 4000000 in
theorem ok_same {a : Addr} {fd : FuncData} (F : L2.Fun K "same" "same" s_same a fd) {k : Nat} (hk : 1 ≤ k) {c_same : List D → Sto → R D} {a_is_row : Addr} {f_is_row : FuncData} (G_is_row : FnOk P w K mg base (L2.CX P w) 1 a_is_row f_is_row P_is_row (spG K ct 1 S_is_row)) (M_is_row : mg "is_row" = some (.ref a_is_row)) (K_is_row : PySem.W.keepIn K (.ref a_is_row) = true) (B_is_row : Binds K f_is_row P_is_row []) {a_one_kind : Addr} {f_one_kind : FuncData} (G_one_kind : FnOk P w K mg base (L2.CX P w) 1 a_one_kind f_one_kind P_one_kind (spG K ct 2 S_one_kind)) (M_one_kind : mg "one_kind" = some (.ref a_one_kind)) (K_one_kind : PySem.W.keepIn K (.ref a_one_kind) = true) (B_one_kind : Binds K f_one_kind P_one_kind []) {a_same : Addr} {f_same : FuncData} (G_same : FnOk P w K mg base (L2.CX P w) k a_same f_same P_same (spG K ct 2 c_same)) (M_same : mg "same" = some (.ref a_same)) (K_same : PySem.W.keepIn K (.ref a_same) = true) (B_same : Binds K f_same P_same []) (Z_all : mg "all" = none) (Z_len : mg "len" = none) (Z_zip : mg "zip" = none) :
    FnOk P w K mg base (L2.CX P w) (k + 1) a fd P_same (spG K ct 2 (U_same c_same)) := by
  refine fn_ok (N := N_same) (ct := ct) F sc_same (by decide) (fun cdv A outer s H v E hr => ?_)
  have nd := sc_same.nd
  exact ss_cons (ss_if (st_not (st_val (se_call G_one_kind (hr.mono (Nat.le_trans (by decide) hk)) (takes_of rfl rfl rfl rfl) rfl M_one_kind K_one_kind B_one_kind (sa_cons (se_var 0) (sa_cons (se_var 1) (sa_nil))) (lenA_cons (lenA_cons (lenA_nil)))))) (ss_one (ss_ret (se_bl))) (ss_nil))
    (ss_cons (ss_if (st_not (st_val (se_call G_is_row (hr.mono (Nat.le_trans (by decide) hk)) (takes_of rfl rfl rfl rfl) rfl M_is_row K_is_row B_is_row (sa_cons (se_var 0) (sa_nil)) (lenA_cons (lenA_nil))))) (ss_one (ss_ret (se_cmp (o_eq (hu_big hr)) (se_var 0) (se_var 1)))) (ss_nil))
    (ss_cons (ss_if (st_cmp (o_ne (hu_big hr)) (se_callB (b_len) rfl Z_len (by decide +kernel) (sa_cons (se_var 0) (sa_nil))) (se_callB (b_len) rfl Z_len (by decide +kernel) (sa_cons (se_var 1) (sa_nil)))) (ss_one (ss_ret (se_bl))) (ss_nil))
    (ss_one (ss_ret (se_callB (b_all rfl) rfl Z_all (by decide +kernel) (sa_cons (SF.fz (sf_lc [("here", 2), ("there", 3)] rfl nd (si_zip rfl Z_zip (sa_cons (se_var 0) (sa_cons (se_var 1) (sa_nil)))) (blkOk_by (by change blkC N_same (defScope s_same) _ _ = true; decide +kernel)) (by decide) (fun _ _ _ _ _ => sg_tup rfl (sgs_cons (sg_name 2 nd) (sgs_cons (sg_name 3 nd) (sgs_nil)))) (fun _ _ _ _ _ => sts_nil) (fun _ _ _ _ _ => se_call G_same (hr) takes0 rfl M_same K_same B_same (sa_cons (se_var 2) (sa_cons (se_var 3) (sa_nil))) (lenA_cons (lenA_cons (lenA_nil)))))) (sa_nil)))))))
set_option maxHeartbeats 4000000 in
theorem ok_apart {a : Addr} {fd : FuncData} (F : L2.Fun K "apart" "apart" s_apart a fd) {a_own_copy : Addr} {f_own_copy : FuncData} (G_own_copy : FnOk P w K mg base (L2.CX P w) 20 a_own_copy f_own_copy P_own_copy (spG K ct 1 (S_own_copy 20))) (M_own_copy : mg "own_copy" = some (.ref a_own_copy)) (K_own_copy : PySem.W.keepIn K (.ref a_own_copy) = true) (B_own_copy : Binds K f_own_copy P_own_copy []) {a_same : Addr} {f_same : FuncData} (G_same : FnOk P w K mg base (L2.CX P w) 21 a_same f_same P_same (spG K ct 2 (S_same 20))) (M_same : mg "same" = some (.ref a_same)) (K_same : PySem.W.keepIn K (.ref a_same) = true) (B_same : Binds K f_same P_same []) (NG_l_still__l_begin : ∀ f cl cc, NdefX.NOk P w K mg base (L2.CX P w) 1 f (NdefX.NF.of s_l_still__l_begin "_law_begin" "_law_still.<locals>._law_begin" cl cc) P_l_still__l_begin [] (fun ws vs H Q E => ws.length = ([] : List Str).length ∧ spN K ct 0 S_l_still__l_begin ws vs H Q E)) (NG_l_still__l_done : ∀ f cl cc, NdefX.NOk P w K mg base (L2.CX P w) 1 f (NdefX.NF.of s_l_still__l_done "_law_done" "_law_still.<locals>._law_done" cl cc) P_l_still__l_done [] (fun ws vs H Q E => ws.length = ([] : List Str).length ∧ spN K ct 2 S_l_still__l_done ws vs H Q E)) (NG_l_thing__l_begin : ∀ f cl cc, NdefX.NOk P w K mg base (L2.CX P w) 1 f (NdefX.NF.of s_l_thing__l_begin "_law_begin" "_law_thing.<locals>._law_begin" cl cc) P_l_thing__l_begin [] (fun ws vs H Q E => ws.length = ([] : List Str).length ∧ spN K ct 0 S_l_thing__l_begin ws vs H Q E)) (NG_l_thing__l_done : ∀ f cl cc, NdefX.NOk P w K mg base (L2.CX P w) 21 f (NdefX.NF.of s_l_thing__l_done "_law_done" "_law_thing.<locals>._law_done" cl cc) P_l_thing__l_done ["_law_bad"] (fun ws vs H Q E => ws.length = (["_law_bad"] : List Str).length ∧ spN K ct 2 S_l_thing__l_done ws vs H Q E)) (Z_enumerate : mg "enumerate" = none) :
    FnOk P w K mg base (L2.CX P w) 22 a fd P_apart (spG K ct 5 S_apart) := by
  refine fn_ok (N := N_apart) (ct := ct) F sc_apart (by decide) (fun cdv A outer s H v E hr => ?_)
  have nd := sc_apart.nd
  exact ss_cons (ss_set 5 (se_clo0 (i := 0) (k := 21) (cloT_add NG_l_still__l_begin (by decide) (cloT_add NG_l_thing__l_begin (by decide) cloT_nil)) (hr.mono (by decide))) nd)
    (ss_cons (ss_set 6 (se_clo0 (i := 2) (k := 21) (cloT_add NG_l_still__l_begin (by decide) (cloT_add NG_l_thing__l_begin (by decide) cloT_nil)) (hr.mono (by decide))) nd)
    (ss_cons (ss_for (passes_of rfl) rfl (si_enum rfl Z_enumerate (sa_cons (se_var 4) (sa_nil))) (sg_tup rfl (sgs_cons (sg_name 7 nd) (sgs_cons (sg_name 8 nd) (sgs_nil)))) (ss_cons (ss_asg (se_clo (i := 1) (k := 21) (cloT_add NG_l_still__l_done (by decide) (cloT_add NG_l_thing__l_done (by decide) cloT_nil)) (hr.mono (by decide)) (sa_cons (se_var 5) (sa_cons (se_call G_own_copy (hr.mono (by decide)) (takes_of rfl rfl rfl rfl) rfl M_own_copy K_own_copy B_own_copy (sa_cons (se_var 8) (sa_nil)) (lenA_cons (lenA_nil))) (sa_nil))) (lenA_cons (lenA_cons (lenA_nil)))) (sg_tup rfl (sgs_cons (sg_name 5 nd) (sgs_cons (sg_name 9 nd) (sgs_nil)))))
    (ss_cons (ss_asg (se_clo (i := 3) (k := 21) (cloT_add NG_l_still__l_done (by decide) (cloT_add NG_l_thing__l_done (by decide) cloT_nil)) (hr.mono (by decide)) (sa_cons (se_var 6) (sa_cons (se_call G_own_copy (hr.mono (by decide)) (takes_of rfl rfl rfl rfl) rfl M_own_copy K_own_copy B_own_copy (sa_cons (se_var 8) (sa_nil)) (lenA_cons (lenA_nil))) (sa_nil))) (lenA_cons (lenA_cons (lenA_nil)))) (sg_tup rfl (sgs_cons (sg_name 6 nd) (sgs_cons (sg_name 10 nd) (sgs_nil)))))
    (ss_one (ss_if (st_not (st_val (se_call G_same (hr.mono (by decide)) (takes_of rfl rfl rfl rfl) rfl M_same K_same B_same (sa_cons (se_var 9) (sa_cons (se_var 10) (sa_nil))) (lenA_cons (lenA_cons (lenA_nil)))))) (ss_one (ss_ret (se_var 7))) (ss_nil))))))
    (ss_one (ss_ret (se_non)))))
set_option maxHeartbeats 4000000 in
theorem ok_deed_judge {a : Addr} {fd : FuncData} {cc : Addr} (F : FunC K "deed_judge" "deed_judge" s_deed_judge a fd cc) (TB : LamX.TabB base mg cc (ct "tab_deed_judge")) :
    FnOk P w K mg base (L2.CX P w) 1 a fd P_deed_judge (spG K ct 4 S_deed_judge) := by
  refine fn_okC (N := N_deed_judge) (ct := ct) (ys := ys_deed_judge) F sc_deed_judge (by decide) (by decide +kernel) (fun A outer s H v E hr W => ?_)
  have nd := sc_deed_judge.nd
  exact rr_ret1 (i := 4) (k := K_deed_judge__judge) (nm := nm_deed_judge) (x := "tab_deed_judge") ⟨rfl, rfl, rfl, rfl, rfl, rfl, rfl, rfl, rfl⟩ (cap_by (by change capB (defScope s_deed_judge) (C8.fnScope s_deed_judge__judge) ["begin", "done", "model_begin", "model_done"] [0, 1, 2, 3] ys_deed_judge = true; decide +kernel)) W TB rfl (by decide)
set_option maxHeartbeats 4000000 in
theorem okn_deed_judge__judge {a_apart : Addr} {f_apart : FuncData} (G_apart : FnOk P w K mg base (L2.CX P w) 22 a_apart f_apart P_apart (spG K ct 5 S_apart)) (M_apart : mg "apart" = some (.ref a_apart)) (K_apart : PySem.W.keepIn K (.ref a_apart) = true) (B_apart : Binds K f_apart P_apart []) :
    ∀ f cl cc, NdefX.NOk P w K mg base (L2.CX P w) 23 f (NdefX.NF.of s_deed_judge__judge "judge" "deed_judge.<locals>.judge" cl cc) P_deed_judge__judge ["begin", "done", "model_begin", "model_done"] (fun ws vs H Q E => ws.length = (["begin", "done", "model_begin", "model_done"] : List Str).length ∧ spN K ct 1 S_deed_judge__judge ws vs H Q E) := by
  refine nk_ok (N := N_deed_judge__judge) (ct := ct) sc_deed_judge__judge (by decide) (fun cl c doc pm ctv us hl => match us, hl with | [_], _ => rfl) (fun cl c f A outer s H E v hr => ?_)
  have nd := sc_deed_judge__judge.nd
  exact ss_one (ss_ret (se_cmp o_isN (se_call G_apart (hr.mono (by decide)) takes0 rfl M_apart K_apart B_apart (sa_cons (se_var 1) (sa_cons (se_var 2) (sa_cons (se_var 3) (sa_cons (se_var 4) (sa_cons (se_var 0) (sa_nil)))))) (lenA_cons (lenA_cons (lenA_cons (lenA_cons (lenA_cons (lenA_nil))))))) (se_non)))
set_option maxHeartbeats 4000000 in
theorem ok_law {a : Addr} {fd : FuncData} (F : L2.Fun K "law" "law" s_law a fd) {a_l_cell_at : Addr} {f_l_cell_at : FuncData} (G_l_cell_at : FnOk P w K mg base (L2.CX P w) 1 a_l_cell_at f_l_cell_at P_l_cell_at (spG K ct 2 S_l_cell_at)) (M_l_cell_at : mg "_law_cell_at" = some (.ref a_l_cell_at)) (K_l_cell_at : PySem.W.keepIn K (.ref a_l_cell_at) = true) (B_l_cell_at : Binds K f_l_cell_at P_l_cell_at []) {a_l_copy : Addr} {f_l_copy : FuncData} (G_l_copy : FnOk P w K mg base (L2.CX P w) 20 a_l_copy f_l_copy P_l_copy (spG K ct 1 (S_l_copy 20))) (M_l_copy : mg "_law_copy" = some (.ref a_l_copy)) (K_l_copy : PySem.W.keepIn K (.ref a_l_copy) = true) (B_l_copy : Binds K f_l_copy P_l_copy []) {a_l_deed : Addr} {f_l_deed : FuncData} (G_l_deed : FnOk P w K mg base (L2.CX P w) 1 a_l_deed f_l_deed P_l_deed (spG K ct 1 S_l_deed)) (M_l_deed : mg "_law_deed" = some (.ref a_l_deed)) (K_l_deed : PySem.W.keepIn K (.ref a_l_deed) = true) (B_l_deed : Binds K f_l_deed P_l_deed []) {a_l_further : Addr} {f_l_further : FuncData} (G_l_further : FnOk P w K mg base (L2.CX P w) 1 a_l_further f_l_further P_l_further (spG K ct 3 S_l_further)) (M_l_further : mg "_law_further" = some (.ref a_l_further)) (K_l_further : PySem.W.keepIn K (.ref a_l_further) = true) (B_l_further : Binds K f_l_further P_l_further []) {a_l_mark : Addr} {f_l_mark : FuncData} (G_l_mark : FnOk P w K mg base (L2.CX P w) 1 a_l_mark f_l_mark P_l_mark (spG K ct 1 S_l_mark)) (M_l_mark : mg "_law_mark" = some (.ref a_l_mark)) (K_l_mark : PySem.W.keepIn K (.ref a_l_mark) = true) (B_l_mark : Binds K f_l_mark P_l_mark []) {a_l_still : Addr} {f_l_still : FuncData} (G_l_still : FnOk P w K mg base (L2.CX P w) 1 a_l_still f_l_still P_l_still (spG K ct 0 S_l_still)) (M_l_still : mg "_law_still" = some (.ref a_l_still)) (K_l_still : PySem.W.keepIn K (.ref a_l_still) = true) (B_l_still : Binds K f_l_still P_l_still []) {a_l_thing : Addr} {f_l_thing : FuncData} (G_l_thing : FnOk P w K mg base (L2.CX P w) 1 a_l_thing f_l_thing P_l_thing (spG K ct 1 S_l_thing)) (M_l_thing : mg "_law_thing" = some (.ref a_l_thing)) (K_l_thing : PySem.W.keepIn K (.ref a_l_thing) = true) (B_l_thing : Binds K f_l_thing P_l_thing []) {a_l_whole : Addr} {f_l_whole : FuncData} (G_l_whole : FnOk P w K mg base (L2.CX P w) 1 a_l_whole f_l_whole P_l_whole (spG K ct 1 S_l_whole)) (M_l_whole : mg "_law_whole" = some (.ref a_l_whole)) (K_l_whole : PySem.W.keepIn K (.ref a_l_whole) = true) (B_l_whole : Binds K f_l_whole P_l_whole []) {a_apart : Addr} {f_apart : FuncData} (G_apart : FnOk P w K mg base (L2.CX P w) 22 a_apart f_apart P_apart (spG K ct 5 S_apart)) (M_apart : mg "apart" = some (.ref a_apart)) (K_apart : PySem.W.keepIn K (.ref a_apart) = true) (B_apart : Binds K f_apart P_apart []) {a_deed_judge : Addr} {f_deed_judge : FuncData} (G_deed_judge : FnOk P w K mg base (L2.CX P w) 1 a_deed_judge f_deed_judge P_deed_judge (spG K ct 4 S_deed_judge)) (M_deed_judge : mg "deed_judge" = some (.ref a_deed_judge)) (K_deed_judge : PySem.W.keepIn K (.ref a_deed_judge) = true) (B_deed_judge : Binds K f_deed_judge P_deed_judge []) (NG_deed_judge__judge : ∀ f cl cc, NdefX.NOk P w K mg base (L2.CX P w) 23 f (NdefX.NF.of s_deed_judge__judge "judge" "deed_judge.<locals>.judge" cl cc) P_deed_judge__judge ["begin", "done", "model_begin", "model_done"] (fun ws vs H Q E => ws.length = (["begin", "done", "model_begin", "model_done"] : List Str).length ∧ spN K ct 1 S_deed_judge__judge ws vs H Q E)) (Z_bool : mg "bool" = none) (Z_isinstance : mg "isinstance" = none) (Z_len : mg "len" = none) (Z_range : mg "range" = none) :
    FnOk P w K mg base (L2.CX P w) 24 a fd P_law (spG K ct 1 S_law) := by
  refine fn_ok (N := N_law) (ct := ct) F sc_law (by decide) (fun cdv A outer s H v E hr => ?_)
  have nd := sc_law.nd
  exact ss_cons (ss_set 1 (se_bin o_mod (se_call G_l_cell_at (hr.mono (by decide)) (takes_of rfl rfl rfl rfl) rfl M_l_cell_at K_l_cell_at B_l_cell_at (sa_cons (se_var 0) (sa_cons (se_int) (sa_nil))) (lenA_cons (lenA_cons (lenA_nil)))) (se_int)) nd)
    (ss_cons (ss_set 2 (se_bin o_mod (se_call G_l_cell_at (hr.mono (by decide)) (takes_of rfl rfl rfl rfl) rfl M_l_cell_at K_l_cell_at B_l_cell_at (sa_cons (se_var 0) (sa_cons (se_int) (sa_nil))) (lenA_cons (lenA_cons (lenA_nil)))) (se_int)) nd)
    (ss_cons (ss_set 3 (se_call G_l_further (hr.mono (by decide)) (takes_of rfl rfl rfl rfl) rfl M_l_further K_l_further B_l_further (sa_cons (se_call G_l_cell_at (hr.mono (by decide)) (takes_of rfl rfl rfl rfl) rfl M_l_cell_at K_l_cell_at B_l_cell_at (sa_cons (se_var 0) (sa_cons (se_int) (sa_nil))) (lenA_cons (lenA_cons (lenA_nil)))) (sa_cons (se_int) (sa_cons (se_int) (sa_nil)))) (lenA_cons (lenA_cons (lenA_cons (lenA_nil))))) nd)
    (ss_cons (ss_setLc 4 (g := eFz) [("_law_cell", 16)] (fun _ _ _ z => lift_fz z) rfl nd rfl rfl (sw_true rfl rfl rfl (by decide +kernel)) (si_seq (se_sl (se_bin o_add (se_sl (se_var 0) (so_some (se_int)) (so_none)) (se_var 3)) (so_none) (so_some (se_int)))) (blkOk_by (by change blkC N_law (defScope s_law) _ _ = true; decide +kernel)) (by decide) (fun _ _ _ _ _ => sg_name 16 nd) (fun _ _ _ _ _ => sts_nil) (fun _ _ _ _ _ => se_call G_l_deed (hr.mono (show 1 ≤ 23 by decide)) takes0 rfl M_l_deed K_l_deed B_l_deed (sa_cons (se_var 16) (sa_nil)) (lenA_cons (lenA_nil))))
    (ss_cons (ss_set 5 (se_call G_l_copy (hr.mono (by decide)) (takes_of rfl rfl rfl rfl) rfl M_l_copy K_l_copy B_l_copy (sa_cons (se_var 4) (sa_nil)) (lenA_cons (lenA_nil))) nd)
    (ss_cons (ss_setLc 6 (g := eFz) [("_law_k", 17)] (fun _ _ _ z => lift_fz z) rfl nd rfl rfl (sw_true rfl rfl rfl (by decide +kernel)) (si_range1 rfl Z_range (sa_cons (se_callB (b_len) rfl Z_len (by decide +kernel) (sa_cons (se_var 5) (sa_nil))) (sa_nil))) (blkOk_by (by change blkC N_law (defScope s_law) _ _ = true; decide +kernel)) (by decide) (fun _ _ _ _ _ => sg_name 17 nd) (fun _ _ _ _ _ => sts_one (st_cmp (o_eq (hu_big hr)) (se_call G_l_mark (hr.mono (show 1 ≤ 23 by decide)) takes0 rfl M_l_mark K_l_mark B_l_mark (sa_cons (se_ix (se_var 5) (se_var 17)) (sa_nil)) (lenA_cons (lenA_nil))) (se_var 1))) (fun _ _ _ _ _ => se_var 17))
    (ss_cons (ss_set 7 (se_call G_l_thing (hr.mono (by decide)) (takes_of rfl rfl rfl rfl) rfl M_l_thing K_l_thing B_l_thing (sa_cons (se_un o_neg (se_int)) (sa_nil)) (lenA_cons (lenA_nil))) nd)
    (ss_cons (ss_set 8 (se_call G_l_thing (hr.mono (by decide)) (takes_of rfl rfl rfl rfl) rfl M_l_thing K_l_thing B_l_thing (sa_cons (se_var 1) (sa_nil)) (lenA_cons (lenA_nil))) nd)
    (ss_cons (ss_set 9 (se_call0 G_l_still (hr.mono (by decide)) (takes_of rfl rfl rfl rfl) rfl M_l_still K_l_still B_l_still) nd)
    (ss_cons (ss_set 10 (se_call G_apart (hr.mono (by decide)) (takes_of rfl rfl rfl rfl) rfl M_apart K_apart B_apart (sa_cons (se_ix (se_var 7) (se_int)) (sa_cons (se_ix (se_var 7) (se_int)) (sa_cons (se_ix (se_var 8) (se_int)) (sa_cons (se_ix (se_var 8) (se_int)) (sa_cons (se_var 4) (sa_nil)))))) (lenA_cons (lenA_cons (lenA_cons (lenA_cons (lenA_cons (lenA_nil))))))) nd)
    (ss_cons (ss_if (st_cmp (o_eq (hu_big hr)) (se_var 6) (SF.fz (sf_lst (sa_nil)))) (ss_one (ss_if (st_cmp o_notN (se_var 10) (se_non)) (ss_one (ss_ret (se_bl))) (ss_nil))) (ss_one (ss_if (PW.pt (sw_or (st_not (st_val (se_call G_l_whole (hr.mono (by decide)) (takes_of rfl rfl rfl rfl) rfl M_l_whole K_l_whole B_l_whole (sa_cons (se_var 10) (sa_nil)) (lenA_cons (lenA_nil))))) (sw_or1 (st_cmp (o_ne (hu_big hr)) (se_var 10) (se_ix (se_var 6) (se_int)))))) (ss_one (ss_ret (se_bl))) (ss_nil))))
    (ss_cons (ss_set 11 (se_call G_deed_judge (hr.mono (by decide)) (takes_of rfl rfl rfl rfl) rfl M_deed_judge K_deed_judge B_deed_judge (sa_cons (se_ix (se_var 7) (se_int)) (sa_cons (se_ix (se_var 7) (se_int)) (sa_cons (se_ix (se_var 8) (se_int)) (sa_cons (se_ix (se_var 8) (se_int)) (sa_nil))))) (lenA_cons (lenA_cons (lenA_cons (lenA_cons (lenA_nil)))))) nd)
    (ss_cons (ss_set 12 (se_call G_deed_judge (hr.mono (by decide)) (takes_of rfl rfl rfl rfl) rfl M_deed_judge K_deed_judge B_deed_judge (sa_cons (se_ix (se_var 9) (se_int)) (sa_cons (se_ix (se_var 9) (se_int)) (sa_cons (se_ix (se_var 9) (se_int)) (sa_cons (se_ix (se_var 9) (se_int)) (sa_nil))))) (lenA_cons (lenA_cons (lenA_cons (lenA_cons (lenA_nil)))))) nd)
    (ss_cons (ss_for (passes_of rfl) rfl (si_seq (SF.fz (sf_lst (sa_cons (se_var 4) (sa_cons (se_sl (se_var 4) (so_none) (so_some (se_var 2))) (sa_cons (se_sl (se_var 4) (so_some (se_int)) (so_some (se_bin o_add (se_var 2) (se_int)))) (sa_cons (se_var 4) (sa_nil)))))))) (sg_name 13 nd) (ss_cons (ss_set 14 (se_clo (i := 11) (k := 23) (cloT_add NG_deed_judge__judge (by decide) cloT_nil) (hr.mono (by decide)) (sa_cons (se_var 13) (sa_nil)) (lenA_cons (lenA_nil))) nd)
    (ss_cons (ss_set 15 (se_cmp (o_eq (hu_big hr)) (SF.fz (sf_lc [("_law_k", 17)] rfl nd (si_range1 rfl Z_range (sa_cons (se_callB (b_len) rfl Z_len (by decide +kernel) (sa_cons (se_var 13) (sa_nil))) (sa_nil))) (blkOk_by (by change blkC N_law (defScope s_law) _ _ = true; decide +kernel)) (by decide) (fun _ _ _ _ _ => sg_name 17 nd) (fun _ _ _ _ _ => sts_one (st_cmp (o_eq (hu_big hr)) (se_call G_l_mark (hr.mono (show 1 ≤ 23 by decide)) takes0 rfl M_l_mark K_l_mark B_l_mark (sa_cons (se_ix (se_var 13) (se_var 17)) (sa_nil)) (lenA_cons (lenA_nil))) (se_var 1))) (fun _ _ _ _ _ => se_var 17))) (SF.fz (sf_lst (sa_nil)))) nd)
    (ss_one (ss_if (PW.pt (sw_or (st_not (st_val (se_isi (n := "bool") (se_var 14) rfl Z_isinstance rfl Z_bool (by decide +kernel)))) (sw_or (st_cmp (o_ne (hu_big hr)) (se_var 14) (se_var 15)) (sw_or1 (st_cmp o_notB (se_clo (i := 12) (k := 23) (cloT_add NG_deed_judge__judge (by decide) cloT_nil) (hr.mono (by decide)) (sa_cons (se_var 13) (sa_nil)) (lenA_cons (lenA_nil))) (se_bl)))))) (ss_one (ss_ret (se_bl))) (ss_nil))))))
    (ss_one (ss_ret (se_cmp (o_eq (hu_big hr)) (se_var 4) (se_var 5)))))))))))))))))
end
def ctOf (c_tab_l_still c_tab_l_thing c_tab_deed_judge : Addr) : String → Addr := fun s => if s = "tab_l_still" then c_tab_l_still else if s = "tab_l_thing" then c_tab_l_thing else if s = "tab_deed_judge" then c_tab_deed_judge else 0
def tabsL : Tabs := [("tab_l_still", nm_l_still), ("tab_l_thing", nm_l_thing), ("tab_deed_judge", nm_deed_judge)]
set_option maxHeartbeats 4000000 in
theorem all_mk {l : PySem.W.OpenLaw} {w : World} {K : PySem.W.Frag} {h : Heap} {mg : Str → Option Value} {fa : Addr} (X : K.In h) (G : h.Ns mainGlobals mg) (hfa : mg "law" = some (.ref fa))
    {a_l_cell_at : Addr} {od0 an0 : Option Addr} {sl0 : Array (Option Value)} {oc0 kV0 dc0 pm0 cd0 ct0 : Value}
    {a_l_copy : Addr} {od1 an1 : Option Addr} {sl1 : Array (Option Value)} {oc1 kV1 dc1 pm1 cd1 ct1 : Value}
    {a_l_deed : Addr} {od2 an2 : Option Addr} {sl2 : Array (Option Value)} {oc2 kV2 dc2 pm2 cd2 ct2 : Value}
    {a_l_further : Addr} {od3 an3 : Option Addr} {sl3 : Array (Option Value)} {oc3 kV3 dc3 pm3 cd3 ct3 : Value}
    {a_l_mark : Addr} {od4 an4 : Option Addr} {sl4 : Array (Option Value)} {oc4 kV4 dc4 pm4 cd4 ct4 : Value}
    {tc_l_still : Value} {to_l_still : Option Addr} {tv_l_still : Array Value} {ts_l_still : Array (Option Value)}
    {a_l_still cc_l_still pt_l_still : Addr} {od5 an5 : Option Addr} {sl5 : Array (Option Value)} {oc5 kV5 dc5 pm5 ct5 : Value}
    {tc_l_thing : Value} {to_l_thing : Option Addr} {tv_l_thing : Array Value} {ts_l_thing : Array (Option Value)}
    {a_l_thing cc_l_thing pt_l_thing : Addr} {od6 an6 : Option Addr} {sl6 : Array (Option Value)} {oc6 kV6 dc6 pm6 ct6 : Value}
    {a_l_whole : Addr} {od7 an7 : Option Addr} {sl7 : Array (Option Value)} {oc7 kV7 dc7 pm7 cd7 ct7 : Value}
    {a_l_lists : Addr} {od11 an11 : Option Addr} {sl11 : Array (Option Value)} {oc11 kV11 dc11 pm11 cd11 ct11 : Value}
    {a_own_copy : Addr} {od13 an13 : Option Addr} {sl13 : Array (Option Value)} {oc13 kV13 dc13 pm13 cd13 ct13 : Value}
    {a_is_row : Addr} {od14 an14 : Option Addr} {sl14 : Array (Option Value)} {oc14 kV14 dc14 pm14 cd14 ct14 : Value}
    {a_one_kind : Addr} {od15 an15 : Option Addr} {sl15 : Array (Option Value)} {oc15 kV15 dc15 pm15 cd15 ct15 : Value}
    {a_same : Addr} {od16 an16 : Option Addr} {sl16 : Array (Option Value)} {oc16 kV16 dc16 pm16 cd16 ct16 : Value}
    {a_apart : Addr} {od17 an17 : Option Addr} {sl17 : Array (Option Value)} {oc17 kV17 dc17 pm17 cd17 ct17 : Value}
    {tc_deed_judge : Value} {to_deed_judge : Option Addr} {tv_deed_judge : Array Value} {ts_deed_judge : Array (Option Value)}
    {a_deed_judge cc_deed_judge pt_deed_judge : Addr} {od18 an18 : Option Addr} {sl18 : Array (Option Value)} {oc18 kV18 dc18 pm18 ct18 : Value}
    {a_law : Addr} {od20 an20 : Option Addr} {sl20 : Array (Option Value)} {oc20 kV20 dc20 pm20 cd20 ct20 : Value}
    (N_0 : PySem.W.nsIn K mainGlobals "_law_cell_at" = some (some (.ref a_l_cell_at)))
    (L_0 : K.lookup a_l_cell_at = some ⟨oc0, od0, .func (PySem.W.fnOf "_law_cell_at" "_law_cell_at" (defArgs s_l_cell_at) (defBody s_l_cell_at) (defScope s_l_cell_at) .none kV0 dc0 pm0 an0 cd0 ct0), sl0⟩)
    (C_0 : PySem.W.codeIn K cd0 "_law_cell_at" = true)
    (K_l_cell_at : PySem.W.keepIn K (.ref a_l_cell_at) = true)
    (N_1 : PySem.W.nsIn K mainGlobals "_law_copy" = some (some (.ref a_l_copy)))
    (L_1 : K.lookup a_l_copy = some ⟨oc1, od1, .func (PySem.W.fnOf "_law_copy" "_law_copy" (defArgs s_l_copy) (defBody s_l_copy) (defScope s_l_copy) .none kV1 dc1 pm1 an1 cd1 ct1), sl1⟩)
    (C_1 : PySem.W.codeIn K cd1 "_law_copy" = true)
    (K_l_copy : PySem.W.keepIn K (.ref a_l_copy) = true)
    (N_2 : PySem.W.nsIn K mainGlobals "_law_deed" = some (some (.ref a_l_deed)))
    (L_2 : K.lookup a_l_deed = some ⟨oc2, od2, .func (PySem.W.fnOf "_law_deed" "_law_deed" (defArgs s_l_deed) (defBody s_l_deed) (defScope s_l_deed) .none kV2 dc2 pm2 an2 cd2 ct2), sl2⟩)
    (C_2 : PySem.W.codeIn K cd2 "_law_deed" = true)
    (K_l_deed : PySem.W.keepIn K (.ref a_l_deed) = true)
    (N_3 : PySem.W.nsIn K mainGlobals "_law_further" = some (some (.ref a_l_further)))
    (L_3 : K.lookup a_l_further = some ⟨oc3, od3, .func (PySem.W.fnOf "_law_further" "_law_further" (defArgs s_l_further) (defBody s_l_further) (defScope s_l_further) .none kV3 dc3 pm3 an3 cd3 ct3), sl3⟩)
    (C_3 : PySem.W.codeIn K cd3 "_law_further" = true)
    (K_l_further : PySem.W.keepIn K (.ref a_l_further) = true)
    (N_4 : PySem.W.nsIn K mainGlobals "_law_mark" = some (some (.ref a_l_mark)))
    (L_4 : K.lookup a_l_mark = some ⟨oc4, od4, .func (PySem.W.fnOf "_law_mark" "_law_mark" (defArgs s_l_mark) (defBody s_l_mark) (defScope s_l_mark) .none kV4 dc4 pm4 an4 cd4 ct4), sl4⟩)
    (C_4 : PySem.W.codeIn K cd4 "_law_mark" = true)
    (K_l_mark : PySem.W.keepIn K (.ref a_l_mark) = true)
    (N_5 : PySem.W.nsIn K mainGlobals "_law_still" = some (some (.ref a_l_still)))
    (L_5 : K.lookup a_l_still = some ⟨oc5, od5, .func (PySem.W.fnOf "_law_still" "_law_still" (defArgs s_l_still) (defBody s_l_still) (defScope s_l_still) .none kV5 dc5 pm5 an5 (.ref cc_l_still) ct5), sl5⟩)
    (C_5 : PySem.W.codeIn K (.ref cc_l_still) "_law_still" = true)
    (K_l_still : PySem.W.keepIn K (.ref a_l_still) = true)
    (TL_l_still : K.lookup cc_l_still = some ⟨tc_l_still, to_l_still, .fields tv_l_still, ts_l_still⟩)
    (TP_l_still : tv_l_still[11]? = some (.ref pt_l_still))
    (TN_l_still : K.lookup pt_l_still = none)
    (N_6 : PySem.W.nsIn K mainGlobals "_law_thing" = some (some (.ref a_l_thing)))
    (L_6 : K.lookup a_l_thing = some ⟨oc6, od6, .func (PySem.W.fnOf "_law_thing" "_law_thing" (defArgs s_l_thing) (defBody s_l_thing) (defScope s_l_thing) .none kV6 dc6 pm6 an6 (.ref cc_l_thing) ct6), sl6⟩)
    (C_6 : PySem.W.codeIn K (.ref cc_l_thing) "_law_thing" = true)
    (K_l_thing : PySem.W.keepIn K (.ref a_l_thing) = true)
    (TL_l_thing : K.lookup cc_l_thing = some ⟨tc_l_thing, to_l_thing, .fields tv_l_thing, ts_l_thing⟩)
    (TP_l_thing : tv_l_thing[11]? = some (.ref pt_l_thing))
    (TN_l_thing : K.lookup pt_l_thing = none)
    (N_7 : PySem.W.nsIn K mainGlobals "_law_whole" = some (some (.ref a_l_whole)))
    (L_7 : K.lookup a_l_whole = some ⟨oc7, od7, .func (PySem.W.fnOf "_law_whole" "_law_whole" (defArgs s_l_whole) (defBody s_l_whole) (defScope s_l_whole) .none kV7 dc7 pm7 an7 cd7 ct7), sl7⟩)
    (C_7 : PySem.W.codeIn K cd7 "_law_whole" = true)
    (K_l_whole : PySem.W.keepIn K (.ref a_l_whole) = true)
    (N_11 : PySem.W.nsIn K mainGlobals "_law_lists" = some (some (.ref a_l_lists)))
    (L_11 : K.lookup a_l_lists = some ⟨oc11, od11, .func (PySem.W.fnOf "_law_lists" "_law_lists" (defArgs s_l_lists) (defBody s_l_lists) (defScope s_l_lists) .none kV11 dc11 pm11 an11 cd11 ct11), sl11⟩)
    (C_11 : PySem.W.codeIn K cd11 "_law_lists" = true)
    (K_l_lists : PySem.W.keepIn K (.ref a_l_lists) = true)
    (N_13 : PySem.W.nsIn K mainGlobals "own_copy" = some (some (.ref a_own_copy)))
    (L_13 : K.lookup a_own_copy = some ⟨oc13, od13, .func (PySem.W.fnOf "own_copy" "own_copy" (defArgs s_own_copy) (defBody s_own_copy) (defScope s_own_copy) .none kV13 dc13 pm13 an13 cd13 ct13), sl13⟩)
    (C_13 : PySem.W.codeIn K cd13 "own_copy" = true)
    (K_own_copy : PySem.W.keepIn K (.ref a_own_copy) = true)
    (N_14 : PySem.W.nsIn K mainGlobals "is_row" = some (some (.ref a_is_row)))
    (L_14 : K.lookup a_is_row = some ⟨oc14, od14, .func (PySem.W.fnOf "is_row" "is_row" (defArgs s_is_row) (defBody s_is_row) (defScope s_is_row) .none kV14 dc14 pm14 an14 cd14 ct14), sl14⟩)
    (C_14 : PySem.W.codeIn K cd14 "is_row" = true)
    (K_is_row : PySem.W.keepIn K (.ref a_is_row) = true)
    (N_15 : PySem.W.nsIn K mainGlobals "one_kind" = some (some (.ref a_one_kind)))
    (L_15 : K.lookup a_one_kind = some ⟨oc15, od15, .func (PySem.W.fnOf "one_kind" "one_kind" (defArgs s_one_kind) (defBody s_one_kind) (defScope s_one_kind) .none kV15 dc15 pm15 an15 cd15 ct15), sl15⟩)
    (C_15 : PySem.W.codeIn K cd15 "one_kind" = true)
    (K_one_kind : PySem.W.keepIn K (.ref a_one_kind) = true)
    (N_16 : PySem.W.nsIn K mainGlobals "same" = some (some (.ref a_same)))
    (L_16 : K.lookup a_same = some ⟨oc16, od16, .func (PySem.W.fnOf "same" "same" (defArgs s_same) (defBody s_same) (defScope s_same) .none kV16 dc16 pm16 an16 cd16 ct16), sl16⟩)
    (C_16 : PySem.W.codeIn K cd16 "same" = true)
    (K_same : PySem.W.keepIn K (.ref a_same) = true)
    (N_17 : PySem.W.nsIn K mainGlobals "apart" = some (some (.ref a_apart)))
    (L_17 : K.lookup a_apart = some ⟨oc17, od17, .func (PySem.W.fnOf "apart" "apart" (defArgs s_apart) (defBody s_apart) (defScope s_apart) .none kV17 dc17 pm17 an17 cd17 ct17), sl17⟩)
    (C_17 : PySem.W.codeIn K cd17 "apart" = true)
    (K_apart : PySem.W.keepIn K (.ref a_apart) = true)
    (N_18 : PySem.W.nsIn K mainGlobals "deed_judge" = some (some (.ref a_deed_judge)))
    (L_18 : K.lookup a_deed_judge = some ⟨oc18, od18, .func (PySem.W.fnOf "deed_judge" "deed_judge" (defArgs s_deed_judge) (defBody s_deed_judge) (defScope s_deed_judge) .none kV18 dc18 pm18 an18 (.ref cc_deed_judge) ct18), sl18⟩)
    (C_18 : PySem.W.codeIn K (.ref cc_deed_judge) "deed_judge" = true)
    (K_deed_judge : PySem.W.keepIn K (.ref a_deed_judge) = true)
    (TL_deed_judge : K.lookup cc_deed_judge = some ⟨tc_deed_judge, to_deed_judge, .fields tv_deed_judge, ts_deed_judge⟩)
    (TP_deed_judge : tv_deed_judge[11]? = some (.ref pt_deed_judge))
    (TN_deed_judge : K.lookup pt_deed_judge = none)
    (N_20 : PySem.W.nsIn K mainGlobals "law" = some (some (.ref a_law)))
    (L_20 : K.lookup a_law = some ⟨oc20, od20, .func (PySem.W.fnOf "law" "law" (defArgs s_law) (defBody s_law) (defScope s_law) .none kV20 dc20 pm20 an20 cd20 ct20), sl20⟩)
    (C_20 : PySem.W.codeIn K cd20 "law" = true)
    (K_law : PySem.W.keepIn K (.ref a_law) = true)
    (Y_all : PySem.W.nsIn K mainGlobals "all" = some none)
    (Y_bool : PySem.W.nsIn K mainGlobals "bool" = some none)
    (Y_enumerate : PySem.W.nsIn K mainGlobals "enumerate" = some none)
    (Y_int : PySem.W.nsIn K mainGlobals "int" = some none)
    (Y_isinstance : PySem.W.nsIn K mainGlobals "isinstance" = some none)
    (Y_len : PySem.W.nsIn K mainGlobals "len" = some none)
    (Y_list : PySem.W.nsIn K mainGlobals "list" = some none)
    (Y_range : PySem.W.nsIn K mainGlobals "range" = some none)
    (Y_str : PySem.W.nsIn K mainGlobals "str" = some none)
    (Y_sum : PySem.W.nsIn K mainGlobals "sum" = some none)
    (Y_tuple : PySem.W.nsIn K mainGlobals "tuple" = some none)
    (Y_zip : PySem.W.nsIn K mainGlobals "zip" = some none)
    (TD : ([pt_l_still, pt_l_thing, pt_deed_judge] : List Addr).Nodup) :
    ∃ (fd : FuncData) (ct : String → Addr) (cs : List (Str × Addr × Addr)), (∀ (s : Shared) (v : Value), BindsTo s fd ⟨[v], []⟩ [("_law_script", v)]) ∧ (∀ t ∈ cs, t.1 ∈ (["_law_still", "_law_thing", "deed_judge"] : List Str)) ∧ (∀ t ∈ cs, PySem.W.tabIn K t.1 = some t.2) ∧ (∀ t ∈ cs, K.lookup t.2.2 = none) ∧ (tabsL.map fun t => ct t.1) = (cs.map fun t => t.2.2) ∧ (cs.map fun t => t.2.2).Nodup ∧ ∀ base : Heap, K.In base → base.Ns mainGlobals mg → (∀ t ∈ cs, LamX.TabB base mg t.2.1 t.2.2) → FnOk l.prog w K mg base (L2.CX l.prog w) 24 fa fd ["_law_script"] (spG K ct 1 S_law) := by
  have e := hfa.symm.trans (PySem.W.mg_of X G N_20)
  cases e
  have F_l_cell_at := fun_mk (st := s_l_cell_at) L_0 C_0 K_l_cell_at
  have B_l_cell_at := F_l_cell_at.binds (ps := P_l_cell_at) fun _ _ _ _ _ _ us hl => match us, hl with | [_, _], _ => rfl
  have M_l_cell_at := PySem.W.mg_of X G N_0
  have F_l_copy := fun_mk (st := s_l_copy) L_1 C_1 K_l_copy
  have B_l_copy := F_l_copy.binds (ps := P_l_copy) fun _ _ _ _ _ _ us hl => match us, hl with | [_], _ => rfl
  have M_l_copy := PySem.W.mg_of X G N_1
  have F_l_deed := fun_mk (st := s_l_deed) L_2 C_2 K_l_deed
  have B_l_deed := F_l_deed.binds (ps := P_l_deed) fun _ _ _ _ _ _ us hl => match us, hl with | [_], _ => rfl
  have M_l_deed := PySem.W.mg_of X G N_2
  have F_l_further := fun_mk (st := s_l_further) L_3 C_3 K_l_further
  have B_l_further := F_l_further.binds (ps := P_l_further) fun _ _ _ _ _ _ us hl => match us, hl with | [_, _, _], _ => rfl
  have M_l_further := PySem.W.mg_of X G N_3
  have F_l_mark := fun_mk (st := s_l_mark) L_4 C_4 K_l_mark
  have B_l_mark := F_l_mark.binds (ps := P_l_mark) fun _ _ _ _ _ _ us hl => match us, hl with | [_], _ => rfl
  have M_l_mark := PySem.W.mg_of X G N_4
  have F_l_still := funC_mk (st := s_l_still) L_5 C_5 K_l_still
  have B_l_still := F_l_still.fn.binds (ps := P_l_still) fun _ _ _ _ _ _ us hl => match us, hl with | [], _ => rfl
  have M_l_still := PySem.W.mg_of X G N_5
  have F_l_thing := funC_mk (st := s_l_thing) L_6 C_6 K_l_thing
  have B_l_thing := F_l_thing.fn.binds (ps := P_l_thing) fun _ _ _ _ _ _ us hl => match us, hl with | [_], _ => rfl
  have M_l_thing := PySem.W.mg_of X G N_6
  have F_l_whole := fun_mk (st := s_l_whole) L_7 C_7 K_l_whole
  have B_l_whole := F_l_whole.binds (ps := P_l_whole) fun _ _ _ _ _ _ us hl => match us, hl with | [_], _ => rfl
  have M_l_whole := PySem.W.mg_of X G N_7
  have F_l_lists := fun_mk (st := s_l_lists) L_11 C_11 K_l_lists
  have B_l_lists := F_l_lists.binds (ps := P_l_lists) fun _ _ _ _ _ _ us hl => match us, hl with | [_], _ => rfl
  have M_l_lists := PySem.W.mg_of X G N_11
  have F_own_copy := fun_mk (st := s_own_copy) L_13 C_13 K_own_copy
  have B_own_copy := F_own_copy.binds (ps := P_own_copy) fun _ _ _ _ _ _ us hl => match us, hl with | [_], _ => rfl
  have M_own_copy := PySem.W.mg_of X G N_13
  have F_is_row := fun_mk (st := s_is_row) L_14 C_14 K_is_row
  have B_is_row := F_is_row.binds (ps := P_is_row) fun _ _ _ _ _ _ us hl => match us, hl with | [_], _ => rfl
  have M_is_row := PySem.W.mg_of X G N_14
  have F_one_kind := fun_mk (st := s_one_kind) L_15 C_15 K_one_kind
  have B_one_kind := F_one_kind.binds (ps := P_one_kind) fun _ _ _ _ _ _ us hl => match us, hl with | [_, _], _ => rfl
  have M_one_kind := PySem.W.mg_of X G N_15
  have F_same := fun_mk (st := s_same) L_16 C_16 K_same
  have B_same := F_same.binds (ps := P_same) fun _ _ _ _ _ _ us hl => match us, hl with | [_, _], _ => rfl
  have M_same := PySem.W.mg_of X G N_16
  have F_apart := fun_mk (st := s_apart) L_17 C_17 K_apart
  have B_apart := F_apart.binds (ps := P_apart) fun _ _ _ _ _ _ us hl => match us, hl with | [_, _, _, _, _], _ => rfl
  have M_apart := PySem.W.mg_of X G N_17
  have F_deed_judge := funC_mk (st := s_deed_judge) L_18 C_18 K_deed_judge
  have B_deed_judge := F_deed_judge.fn.binds (ps := P_deed_judge) fun _ _ _ _ _ _ us hl => match us, hl with | [_, _, _, _], _ => rfl
  have M_deed_judge := PySem.W.mg_of X G N_18
  have F_law := fun_mk (st := s_law) L_20 C_20 K_law
  have B_law := F_law.binds (ps := P_law) fun _ _ _ _ _ _ us hl => match us, hl with | [_], _ => rfl
  have M_law := PySem.W.mg_of X G N_20
  have Z_all := PySem.W.mg_none_of X G Y_all
  have Z_bool := PySem.W.mg_none_of X G Y_bool
  have Z_enumerate := PySem.W.mg_none_of X G Y_enumerate
  have Z_int := PySem.W.mg_none_of X G Y_int
  have Z_isinstance := PySem.W.mg_none_of X G Y_isinstance
  have Z_len := PySem.W.mg_none_of X G Y_len
  have Z_list := PySem.W.mg_none_of X G Y_list
  have Z_range := PySem.W.mg_none_of X G Y_range
  have Z_str := PySem.W.mg_none_of X G Y_str
  have Z_sum := PySem.W.mg_none_of X G Y_sum
  have Z_tuple := PySem.W.mg_none_of X G Y_tuple
  have Z_zip := PySem.W.mg_none_of X G Y_zip
  have hcs : ∀ (Q : Str × Addr × Addr → Prop), Q ("_law_still", cc_l_still, pt_l_still) → Q ("_law_thing", cc_l_thing, pt_l_thing) → Q ("deed_judge", cc_deed_judge, pt_deed_judge) → ∀ t ∈ ([("_law_still", cc_l_still, pt_l_still), ("_law_thing", cc_l_thing, pt_l_thing), ("deed_judge", cc_deed_judge, pt_deed_judge)] : List (Str × Addr × Addr)), Q t := fun Q q0 q1 q2 t ht => by
    simp only [List.mem_cons, List.not_mem_nil, or_false] at ht
    rcases ht with rfl | rfl | rfl <;> assumption
  refine ⟨PySem.W.fnOf "law" "law" (defArgs s_law) (defBody s_law) (defScope s_law) .none kV20 dc20 pm20 an20 cd20 ct20, (ctOf pt_l_still pt_l_thing pt_deed_judge), [("_law_still", cc_l_still, pt_l_still), ("_law_thing", cc_l_thing, pt_l_thing), ("deed_judge", cc_deed_judge, pt_deed_judge)], fun s v => .of_eq rfl, hcs _ (by simp) (by simp) (by simp), hcs _ (tabIn_of N_5 L_5 rfl TL_l_still TP_l_still) (tabIn_of N_6 L_6 rfl TL_l_thing TP_l_thing) (tabIn_of N_18 L_18 rfl TL_deed_judge TP_deed_judge), hcs _ TN_l_still TN_l_thing TN_deed_judge, by simp [tabsL, ctOf], TD, fun base _ _ TBs => ?_⟩
  have TB_l_still : LamX.TabB base mg cc_l_still ((ctOf pt_l_still pt_l_thing pt_deed_judge) "tab_l_still") := TBs ("_law_still", cc_l_still, pt_l_still) (by simp)
  have TB_l_thing : LamX.TabB base mg cc_l_thing ((ctOf pt_l_still pt_l_thing pt_deed_judge) "tab_l_thing") := TBs ("_law_thing", cc_l_thing, pt_l_thing) (by simp)
  have TB_deed_judge : LamX.TabB base mg cc_deed_judge ((ctOf pt_l_still pt_l_thing pt_deed_judge) "tab_deed_judge") := TBs ("deed_judge", cc_deed_judge, pt_deed_judge) (by simp)
  have G_l_cell_at := ok_l_cell_at (P := l.prog) (w := w) (mg := mg) (base := base) (K := K) (ct := (ctOf pt_l_still pt_l_thing pt_deed_judge)) F_l_cell_at Z_len
  have Q_l_copy : ∀ n : Nat, FnOk l.prog w K mg base (L2.CX l.prog w) (0 + n) a_l_copy (PySem.W.fnOf "_law_copy" "_law_copy" (defArgs s_l_copy) (defBody s_l_copy) (defScope s_l_copy) .none kV1 dc1 pm1 an1 cd1 ct1) P_l_copy (spG K (ctOf pt_l_still pt_l_thing pt_deed_judge) 1 (S_l_copy n)) := by
    intro n
    induction n with
    | zero => exact (fn_zero (ps := P_l_copy)).mono (Nat.zero_le _)
    | succ n ih =>
      have G_l_copy := ih
      exact ok_l_copy (P := l.prog) (w := w) (mg := mg) (base := base) (K := K) (ct := (ctOf pt_l_still pt_l_thing pt_deed_judge)) F_l_copy (Nat.le_add_right _ _) G_l_copy M_l_copy K_l_copy B_l_copy Z_isinstance Z_list Z_tuple
  have G_l_copy := Q_l_copy 20
  have G_l_deed := ok_l_deed (P := l.prog) (w := w) (mg := mg) (base := base) (K := K) (ct := (ctOf pt_l_still pt_l_thing pt_deed_judge)) F_l_deed
  have G_l_further := ok_l_further (P := l.prog) (w := w) (mg := mg) (base := base) (K := K) (ct := (ctOf pt_l_still pt_l_thing pt_deed_judge)) F_l_further Z_range
  have G_l_mark := ok_l_mark (P := l.prog) (w := w) (mg := mg) (base := base) (K := K) (ct := (ctOf pt_l_still pt_l_thing pt_deed_judge)) F_l_mark Z_isinstance Z_list
  have G_l_still := ok_l_still (P := l.prog) (w := w) (mg := mg) (base := base) (K := K) (ct := (ctOf pt_l_still pt_l_thing pt_deed_judge)) F_l_still TB_l_still
  have G_l_thing := ok_l_thing (P := l.prog) (w := w) (mg := mg) (base := base) (K := K) (ct := (ctOf pt_l_still pt_l_thing pt_deed_judge)) F_l_thing TB_l_thing
  have G_l_whole := ok_l_whole (P := l.prog) (w := w) (mg := mg) (base := base) (K := K) (ct := (ctOf pt_l_still pt_l_thing pt_deed_judge)) F_l_whole Z_bool Z_int Z_isinstance
  have NG_l_still__l_begin : ∀ f cl cc, NdefX.NOk l.prog w K mg base (L2.CX l.prog w) 1 f (NdefX.NF.of s_l_still__l_begin "_law_begin" "_law_still.<locals>._law_begin" cl cc) P_l_still__l_begin [] (fun ws vs H Q E => ws.length = ([] : List Str).length ∧ spN K (ctOf pt_l_still pt_l_thing pt_deed_judge) 0 S_l_still__l_begin ws vs H Q E) := okn_l_still__l_begin (P := l.prog) (w := w) (mg := mg) (base := base) (K := K) (ct := (ctOf pt_l_still pt_l_thing pt_deed_judge)) 
  have NG_l_still__l_done : ∀ f cl cc, NdefX.NOk l.prog w K mg base (L2.CX l.prog w) 1 f (NdefX.NF.of s_l_still__l_done "_law_done" "_law_still.<locals>._law_done" cl cc) P_l_still__l_done [] (fun ws vs H Q E => ws.length = ([] : List Str).length ∧ spN K (ctOf pt_l_still pt_l_thing pt_deed_judge) 2 S_l_still__l_done ws vs H Q E) := okn_l_still__l_done (P := l.prog) (w := w) (mg := mg) (base := base) (K := K) (ct := (ctOf pt_l_still pt_l_thing pt_deed_judge)) 
  have NG_l_thing__l_begin : ∀ f cl cc, NdefX.NOk l.prog w K mg base (L2.CX l.prog w) 1 f (NdefX.NF.of s_l_thing__l_begin "_law_begin" "_law_thing.<locals>._law_begin" cl cc) P_l_thing__l_begin [] (fun ws vs H Q E => ws.length = ([] : List Str).length ∧ spN K (ctOf pt_l_still pt_l_thing pt_deed_judge) 0 S_l_thing__l_begin ws vs H Q E) := okn_l_thing__l_begin (P := l.prog) (w := w) (mg := mg) (base := base) (K := K) (ct := (ctOf pt_l_still pt_l_thing pt_deed_judge)) 
  have Q_l_lists : ∀ n : Nat, FnOk l.prog w K mg base (L2.CX l.prog w) (0 + n) a_l_lists (PySem.W.fnOf "_law_lists" "_law_lists" (defArgs s_l_lists) (defBody s_l_lists) (defScope s_l_lists) .none kV11 dc11 pm11 an11 cd11 ct11) P_l_lists (spG K (ctOf pt_l_still pt_l_thing pt_deed_judge) 1 (S_l_lists n)) := by
    intro n
    induction n with
    | zero => exact (fn_zero (ps := P_l_lists)).mono (Nat.zero_le _)
    | succ n ih =>
      have G_l_lists := ih
      exact ok_l_lists (P := l.prog) (w := w) (mg := mg) (base := base) (K := K) (ct := (ctOf pt_l_still pt_l_thing pt_deed_judge)) F_l_lists (Nat.le_add_right _ _) G_l_lists M_l_lists K_l_lists B_l_lists Z_isinstance Z_list Z_tuple
  have G_l_lists := Q_l_lists 20
  have NG_l_thing__l_done : ∀ f cl cc, NdefX.NOk l.prog w K mg base (L2.CX l.prog w) 21 f (NdefX.NF.of s_l_thing__l_done "_law_done" "_law_thing.<locals>._law_done" cl cc) P_l_thing__l_done ["_law_bad"] (fun ws vs H Q E => ws.length = (["_law_bad"] : List Str).length ∧ spN K (ctOf pt_l_still pt_l_thing pt_deed_judge) 2 S_l_thing__l_done ws vs H Q E) := okn_l_thing__l_done (P := l.prog) (w := w) (mg := mg) (base := base) (K := K) (ct := (ctOf pt_l_still pt_l_thing pt_deed_judge)) G_l_lists M_l_lists K_l_lists B_l_lists G_l_mark M_l_mark K_l_mark B_l_mark Z_int Z_len Z_sum
  have Q_own_copy : ∀ n : Nat, FnOk l.prog w K mg base (L2.CX l.prog w) (0 + n) a_own_copy (PySem.W.fnOf "own_copy" "own_copy" (defArgs s_own_copy) (defBody s_own_copy) (defScope s_own_copy) .none kV13 dc13 pm13 an13 cd13 ct13) P_own_copy (spG K (ctOf pt_l_still pt_l_thing pt_deed_judge) 1 (S_own_copy n)) := by
    intro n
    induction n with
    | zero => exact (fn_zero (ps := P_own_copy)).mono (Nat.zero_le _)
    | succ n ih =>
      have G_own_copy := ih
      exact ok_own_copy (P := l.prog) (w := w) (mg := mg) (base := base) (K := K) (ct := (ctOf pt_l_still pt_l_thing pt_deed_judge)) F_own_copy (Nat.le_add_right _ _) G_own_copy M_own_copy K_own_copy B_own_copy Z_isinstance Z_list Z_tuple
  have G_own_copy := Q_own_copy 20
  have G_is_row := ok_is_row (P := l.prog) (w := w) (mg := mg) (base := base) (K := K) (ct := (ctOf pt_l_still pt_l_thing pt_deed_judge)) F_is_row Z_isinstance Z_list Z_tuple
  have G_one_kind := ok_one_kind (P := l.prog) (w := w) (mg := mg) (base := base) (K := K) (ct := (ctOf pt_l_still pt_l_thing pt_deed_judge)) F_one_kind Z_bool Z_int Z_isinstance Z_list Z_str Z_tuple
  have Q_same : ∀ n : Nat, FnOk l.prog w K mg base (L2.CX l.prog w) (1 + n) a_same (PySem.W.fnOf "same" "same" (defArgs s_same) (defBody s_same) (defScope s_same) .none kV16 dc16 pm16 an16 cd16 ct16) P_same (spG K (ctOf pt_l_still pt_l_thing pt_deed_judge) 2 (S_same n)) := by
    intro n
    induction n with
    | zero => exact (fn_zero (ps := P_same)).mono (Nat.zero_le _)
    | succ n ih =>
      have G_same := ih
      exact ok_same (P := l.prog) (w := w) (mg := mg) (base := base) (K := K) (ct := (ctOf pt_l_still pt_l_thing pt_deed_judge)) F_same (Nat.le_add_right _ _) G_is_row M_is_row K_is_row B_is_row G_one_kind M_one_kind K_one_kind B_one_kind G_same M_same K_same B_same Z_all Z_len Z_zip
  have G_same := Q_same 20
  have G_apart := ok_apart (P := l.prog) (w := w) (mg := mg) (base := base) (K := K) (ct := (ctOf pt_l_still pt_l_thing pt_deed_judge)) F_apart G_own_copy M_own_copy K_own_copy B_own_copy G_same M_same K_same B_same NG_l_still__l_begin NG_l_still__l_done NG_l_thing__l_begin NG_l_thing__l_done Z_enumerate
  have G_deed_judge := ok_deed_judge (P := l.prog) (w := w) (mg := mg) (base := base) (K := K) (ct := (ctOf pt_l_still pt_l_thing pt_deed_judge)) F_deed_judge TB_deed_judge
  have NG_deed_judge__judge : ∀ f cl cc, NdefX.NOk l.prog w K mg base (L2.CX l.prog w) 23 f (NdefX.NF.of s_deed_judge__judge "judge" "deed_judge.<locals>.judge" cl cc) P_deed_judge__judge ["begin", "done", "model_begin", "model_done"] (fun ws vs H Q E => ws.length = (["begin", "done", "model_begin", "model_done"] : List Str).length ∧ spN K (ctOf pt_l_still pt_l_thing pt_deed_judge) 1 S_deed_judge__judge ws vs H Q E) := okn_deed_judge__judge (P := l.prog) (w := w) (mg := mg) (base := base) (K := K) (ct := (ctOf pt_l_still pt_l_thing pt_deed_judge)) G_apart M_apart K_apart B_apart
  have G_law := ok_law (P := l.prog) (w := w) (mg := mg) (base := base) (K := K) (ct := (ctOf pt_l_still pt_l_thing pt_deed_judge)) F_law G_l_cell_at M_l_cell_at K_l_cell_at B_l_cell_at G_l_copy M_l_copy K_l_copy B_l_copy G_l_deed M_l_deed K_l_deed B_l_deed G_l_further M_l_further K_l_further B_l_further G_l_mark M_l_mark K_l_mark B_l_mark G_l_still M_l_still K_l_still B_l_still G_l_thing M_l_thing K_l_thing B_l_thing G_l_whole M_l_whole K_l_whole B_l_whole G_apart M_apart K_apart B_apart G_deed_judge M_deed_judge K_deed_judge B_deed_judge NG_deed_judge__judge Z_bool Z_isinstance Z_len Z_range
  exact G_law
end Law

/-! GOm: lists of the store that stand within a datum, and how they are told (parts of GOc and GOl, without own copies). -/
namespace Law
open PySem L2 Gs
/-- no number, no text, ..: no list -/
def Sc (y : D) : Prop := (∃ i, y = .int i) ∨ (∃ l, y = .str l) ∨ (∃ b, y = .bl b) ∨ y = .non
/-- the lists of the store that stand in a datum, as they are met -/
def Tl (s : Sto) : Nat → D → List Nat → Prop
  | 0, y, ix => Sc y ∧ ix = []
  | n + 1, y, ix => (Sc y ∧ ix = []) ∨ ∃ ps : List (D × List Nat), ps.length ≤ 1000 ∧ (∀ p ∈ ps, Tl s n p.1 p.2) ∧ ((y = .tup (ps.map (·.1)) ∧ ix = (ps.map (·.2)).flatten) ∨ ∃ k, y = .ob k ∧ s[k]? = some (.lst (ps.map (·.1))) ∧ ix = k :: (ps.map (·.2)).flatten)
theorem tl_mono {s : Sto} (g : Sto) : ∀ (n : Nat) (y : D) (ix : List Nat), Tl s n y ix → Tl (s ++ g) n y ix
  | 0, y, ix, h => h
  | n + 1, y, ix, h => by
    rcases h with h | ⟨ps, h1, h2, h3⟩
    · exact .inl h
    · refine .inr ⟨ps, h1, fun p hp => tl_mono g n p.1 p.2 (h2 p hp), ?_⟩
      rcases h3 with h3 | ⟨k, e1, e2, e3⟩
      · exact .inl h3
      · exact .inr ⟨k, e1, by rw [List.getElem?_append_left (List.getElem?_eq_some_iff.mp e2).1]; exact e2, e3⟩
theorem tl_sc {s : Sto} {y : D} (h : Sc y) : ∀ n : Nat, Tl s n y []
  | 0 => ⟨h, rfl⟩
  | n + 1 => .inl ⟨h, rfl⟩
theorem seq3 {A R : S} {δ : Sl} {s : Sto} {r : RS} (δ' : Sl) (s' : Sto) (h : A δ s = .nx δ' s') (h2 : R δ' s' = r) : sSeq A R δ s = r := by
  rw [v_sSeq, h]
  exact h2
theorem l1s : 1 ≤ sizeLine := small_line (by omega)
theorem li_scal {y : D} (h : Sc y) (k : Nat) (s : Sto) : S_l_lists (k + 1) [y] s = .ok (.ob s.length) (s ++ [.lst []]) := by
  show U_l_lists _ _ _ = _
  apply runG_rt
  rcases h with ⟨i, rfl⟩ | ⟨l, rfl⟩ | ⟨b, rfl⟩ | rfl <;> simp [gIsi2, tyN, isTy]
theorem Ns_cons {o : O} {g : Sto} (h : nocO o = true) (k : Ns g) : Ns (o :: g) := Ns_iff.mpr fun x m => by
  rcases List.mem_cons.mp m with rfl | m
  · exact h
  · exact Ns_iff.mp k x m
theorem li_loop {k n : Nat} {x0 : Option D} (s0 : Sto) {q : Wk} (hq : ∀ s g, s = s0 ++ g → Stl q s) : ∀ (ps : List (D × List Nat)) (acc : List Nat) (y : Option D) (g : Sto), (∀ p ∈ ps, ∀ s, ∃ g, Ns g ∧ S_l_lists k [p.1] (s0 ++ s) = .ok (.ob (s0 ++ s).length) (s0 ++ s ++ .lst (p.2.map .ob) :: g)) → acc.length + ((ps.map (·.2)).flatten).length ≤ 20000 → Ns g →
    ∃ y' g', Ns g' ∧ forO q (.nm 2) (L_l_lists_0 (S_l_lists k)) (ps.map (·.1)) [x0, some (.ob s0.length), y] (s0 ++ .lst (acc.map .ob) :: g) = .nx [x0, some (.ob s0.length), y'] (s0 ++ .lst ((acc ++ (ps.map (·.2)).flatten).map .ob) :: g')
  | [], acc, y, g, _, _, hg => ⟨y, g, hg, by
    simp only [List.map_nil, forO, if_pos (hq _ _ rfl)]
    simp⟩
  | p :: ps, acc, y, g, h, hl, hg => by
    obtain ⟨g1, n1, e1⟩ := h p (by simp) (.lst (acc.map .ob) :: g)
    simp only [List.map_cons, List.flatten_cons, List.length_append] at hl
    obtain ⟨y', g', n', ih⟩ := li_loop (k := k) (n := n) (x0 := x0) s0 hq ps (acc ++ p.2) (some p.1) (g ++ .lst (p.2.map .ob) :: g1) (fun r hr => h r (by simp [hr])) (by rw [List.length_append]; omega) (hg.app (Ns_cons (Nl.map fun _ _ => rfl) n1))
    refine ⟨y', g', n', ?_⟩
    have a1 : s0 ++ O.lst (acc.map .ob) :: g ++ O.lst (p.2.map .ob) :: g1 = s0 ++ O.lst (acc.map .ob) :: (g ++ .lst (p.2.map .ob) :: g1) := by simp
    have r1 := rsv_mid (s0 ++ O.lst (acc.map .ob) :: g) g1 (p.2.map .ob)
    rw [a1] at e1 r1
    have l1 : acc.length + p.2.length ≤ sizeLine := small_line (by omega)
    have eb : L_l_lists_0 (S_l_lists k) [x0, some (.ob s0.length), some p.1] (s0 ++ .lst (acc.map .ob) :: g) = .nx [x0, some (.ob s0.length), some p.1] (s0 ++ .lst ((acc ++ p.2).map .ob) :: (g ++ .lst (p.2.map .ob) :: g1)) := by
      obtain ⟨K, hK⟩ : ∃ K, (s0 ++ O.lst (acc.map .ob) :: g).length = K := ⟨_, rfl⟩
      rw [hK] at e1 r1
      simp [L_l_lists_0, eExt, e1, r1, l1]
    simp only [List.map_cons, forO, if_pos (hq _ _ rfl), v_nm, List.set_cons_succ, List.set_cons_zero]
    rw [eb]
    simp only []
    rw [ih]
    simp
theorem li_val : ∀ (n : Nat) (y : D) (ix : List Nat) (s : Sto), Tl s n y ix → ix.length ≤ 20000 → ∀ (m : Nat), ∃ g, Ns g ∧ S_l_lists (m + n + 1) [y] s = .ok (.ob s.length) (s ++ .lst (ix.map .ob) :: g)
  | 0, y, ix, s, h, _, m => by
    obtain ⟨h1, rfl⟩ := h
    exact ⟨[], rfl, li_scal h1 m s⟩
  | n + 1, y, ix, s, h, hl, m => by
    rcases h with ⟨h1, rfl⟩ | ⟨ps, h1, h2, h3⟩
    · exact ⟨[], rfl, li_scal h1 _ s⟩
    have hp : ∀ p ∈ ps, p.2.length ≤ ((ps.map (·.2)).flatten).length := by
      intro p hp
      rw [List.length_flatten]
      have : ∀ (l : List (D × List Nat)), p ∈ l → p.2.length ≤ ((l.map (·.2)).map List.length).sum := by
        intro l
        induction l with
        | nil => intro h; exact nomatch h
        | cons a l ih =>
          intro h
          simp only [List.map_cons, List.sum_cons]
          rcases List.mem_cons.mp h with rfl | h
          · omega
          · have := ih h; omega
      exact this ps hp
    have sub : ∀ p ∈ ps, ((ps.map (·.2)).flatten).length ≤ 20000 → ∀ g, ∃ g', Ns g' ∧ S_l_lists (m + (n + 1)) [p.1] (s ++ g) = .ok (.ob (s ++ g).length) (s ++ g ++ .lst (p.2.map .ob) :: g') := fun p hpp hl2 g => li_val n p.1 p.2 (s ++ g) (tl_mono g n _ _ (h2 p hpp)) (Nat.le_trans (hp p hpp) hl2) m
    have l1 : 1 ≤ sizeLine := l1s
    have z1 : 0 < sizeLine := by omega
    rcases h3 with ⟨rfl, rfl⟩ | ⟨k, rfl, hk, rfl⟩
    · obtain ⟨y', g', n', e⟩ := li_loop (k := m + (n + 1)) (n := n) (x0 := some (.tup (ps.map (·.1)))) s (q := (ps.map (·.1), none)) (fun s g _ => stl_none _ _) ps [] none [] (fun p hpp g => sub p hpp hl g) (by rw [List.length_nil]; omega) rfl
      refine ⟨g', n', ?_⟩
      show U_l_lists _ _ _ = _
      apply runG_rt
      simp at e
      simp [e]
    · have hkl : k < s.length := (List.getElem?_eq_some_iff.mp hk).1
      have hkg : ∀ g : Sto, (s ++ g)[k]? = some (.lst (ps.map (·.1))) := fun g => by rw [List.getElem?_append_left hkl]; exact hk
      simp only [List.length_cons] at hl
      obtain ⟨y', g', n', e⟩ := li_loop (k := m + (n + 1)) (n := n) (x0 := some (.ob k)) s (q := (ps.map (·.1), some k)) (fun s' g hs => by rw [hs]; exact stl_some (hkg g)) ps [k] none [] (fun p hpp g => sub p hpp (by omega) g) (by rw [List.length_singleton]; omega) rfl
      refine ⟨g', n', ?_⟩
      have r1 : ∀ g, rsv (s ++ g) (.ob k) = .lst (ps.map (·.1)) := fun g => r_ob (hkg g)
      have w1 : ∀ g, wkOf (s ++ g) (.ob k) = some (ps.map (·.1), some k) := fun g => wk_ob (hkg g)
      show U_l_lists _ _ _ = _
      apply runG_rt
      simp at e
      simp [r1, w1, z1, e]
end Law

/-! V81a: k81: deeds, their own copies, and what is done with them. -/
namespace Law
open PySem L2 Gs
theorem sq_nx {f g : S} {δ δ' : Sl} {s s' : Sto} {r : RS} (h : f δ s = .nx δ' s') (h2 : g δ' s' = r) : sSeq f g δ s = r := by simp only [v_sSeq, h, h2]
theorem sq_rt {f g : S} {δ : Sl} {s s' : Sto} {d : D} (h : f δ s = .rt d s') : sSeq f g δ s = .rt d s' := by simp only [v_sSeq, h]
inductive Dd where
  | p (m : Int) (vs : List Int)
  | b (m : Int) (vs : List Int) (w : Int)
def Dd.m : Dd → Int
  | .p m _ => m
  | .b m _ _ => m
def Dd.d : Dd → D
  | .p m vs => .tup [.int m, .lst (vs.map .int)]
  | .b m vs w => .lst [.tup [.int m, .lst (vs.map .int)], .lst [.int w]]
def Dd.vs : Dd → List Int
  | .p _ vs => vs
  | .b _ vs _ => vs
/-- how many lists, and how long together -/
def Dd.n : Dd → Int
  | .p _ _ => 1
  | .b _ _ _ => 3
def Dd.t : Dd → Int
  | .p _ vs => vs.length
  | .b _ vs _ => 2 + (vs.length + 1)
/-- the own copy, made at n -/
def Dd.y (n : Nat) : Dd → D
  | .p m _ => .tup [.int m, .ob n]
  | .b _ _ _ => .ob (n + 2)
def Dd.g (n : Nat) : Dd → Sto
  | .p _ vs => [.lst (vs.map .int)]
  | .b m vs w => [.lst (vs.map .int), .lst [.int w], .lst [.tup [.int m, .ob n], .ob (n + 1)]]
def Dd.ix (n : Nat) : Dd → List Nat
  | .p _ _ => [n]
  | .b _ _ _ => [n + 2, n, n + 1]
theorem own_int (k : Nat) (i : Int) (s : Sto) : S_own_copy (k + 1) [.int i] s = .ok (.int i) s := by
  show U_own_copy (S_own_copy k) [.int i] s = _
  apply runG_rt
  simp
theorem own_ints (k : Nat) (vs : List Int) (hv : vs.length ≤ 2) (s : Sto) : S_own_copy (k + 2) [.lst (vs.map .int)] s = .ok (.ob s.length) (s ++ [.lst (vs.map .int)]) := by
  have lc := lcD_mapL (p := .nm 1) (c := tTrue) (e := eCall (S_own_copy (k + 1)) (aCons (eV 1) aNil)) (δ := [some (.lst (vs.map .int)), none]) (s := s) D.int D.int vs fun i _ => ⟨_, v_nm _ _ _, rfl, by simp [own_int]⟩
  have hl : vs.length ≤ sizeLine := small_line (by omega)
  show U_own_copy (S_own_copy (k + 1)) _ s = _
  apply runG_rt
  simp [wipeD, lc, hl]
theorem own_pair (k : Nat) (m : Int) (vs : List Int) (hv : vs.length ≤ 2) (s : Sto) : S_own_copy (k + 3) [.tup [.int m, .lst (vs.map .int)]] s = .ok (.tup [.int m, .ob s.length]) (s ++ [.lst (vs.map .int)]) := by
  have e1 := own_int (k + 1) m s
  have e2 := own_ints k vs hv s
  have s2 : 2 ≤ sizeLine := small_line (by omega)
  show U_own_copy (S_own_copy (k + 2)) _ s = _
  apply runG_rt
  simp [wipeD, tyN, isTy, lcD, e1, e2, s2]
theorem own_dd (k : Nat) (d : Dd) (hv : d.vs.length ≤ 2) (s : Sto) : S_own_copy (k + 4) [d.d] s = .ok (d.y s.length) (s ++ d.g s.length) := by
  cases d with
  | p m vs => exact own_pair (k + 1) m vs hv s
  | b m vs w =>
    have e1 := own_pair k m vs hv s
    have e2 := own_ints (k + 1) [w] (by simp) (s ++ [.lst (vs.map .int)])
    have el : (s ++ [O.lst (vs.map D.int)]).length = s.length + 1 := by simp
    rw [el] at e2
    have s2 : 2 ≤ sizeLine := small_line (by omega)
    simp only [Dd.d, Dd.y, Dd.g, List.map_cons, List.map_nil] at e2 ⊢
    generalize D.lst (vs.map .int) = x at *
    generalize O.lst (vs.map D.int) = o at *
    show U_own_copy (S_own_copy (k + 3)) _ s = _
    apply runG_rt
    simp [wipeD, tyN, isTy, lcD, e1, e2, s2]
theorem tl_dd (d : Dd) (hv : d.vs.length ≤ 2) (s : Sto) : Tl (s ++ d.g s.length) 4 (d.y s.length) (d.ix s.length) := by
  have flat : ∀ (S : Sto) (i n : Nat) (vs : List Int), vs.length ≤ 2 → S[i]? = some (.lst (vs.map .int)) → Tl S (n + 1) (.ob i) [i] := fun S i n vs hl hi => by
    refine .inr ⟨vs.map fun v => (.int v, []), by simp; omega, fun p hp => ?_, .inr ⟨i, rfl, by rw [List.map_map]; exact hi, ?_⟩⟩
    · obtain ⟨v, _, rfl⟩ := List.mem_map.mp hp
      exact tl_sc (.inl ⟨v, rfl⟩) n
    · rw [List.map_map]
      have : ∀ l : List Int, (l.map ((fun p : D × List Nat => p.2) ∘ fun v => (D.int v, []))).flatten = [] := fun l => by induction l with | nil => rfl | cons a l ih => simpa using ih
      rw [this]
  have pair : ∀ (S : Sto) (i n : Nat) (m : Int) (vs : List Int), vs.length ≤ 2 → S[i]? = some (.lst (vs.map .int)) → Tl S (n + 2) (.tup [.int m, .ob i]) [i] := fun S i n m vs hl hi =>
    .inr ⟨[(.int m, []), (.ob i, [i])], by simp, fun p hp => by
      simp only [List.mem_cons, List.not_mem_nil, or_false] at hp
      rcases hp with rfl | rfl
      · exact tl_sc (.inl ⟨m, rfl⟩) (n + 1)
      · exact flat S i n vs hl hi, .inl ⟨rfl, rfl⟩⟩
  cases d with
  | p m vs => exact pair _ _ 2 m vs hv (by simp [Dd.g])
  | b m vs w =>
    refine .inr ⟨[(.tup [.int m, .ob s.length], [s.length]), (.ob (s.length + 1), [s.length + 1])], by simp, fun p hp => ?_, .inr ⟨s.length + 2, rfl, ?_, rfl⟩⟩
    · simp only [List.mem_cons, List.not_mem_nil, or_false] at hp
      rcases hp with rfl | rfl
      · exact pair _ _ 1 m vs hv (by simp [Dd.g])
      · refine flat _ _ 2 [w] (by simp) ?_
        rw [List.getElem?_append_right (by omega)]
        simp [Dd.g]
    · rw [List.getElem?_append_right (by omega)]
      simp [Dd.g]
end Law

/-! V81b: k81: what a thing does with the own copy of a deed. -/
namespace Law
open PySem L2 Gs
theorem ns_g (n : Nat) (d : Dd) : Ns (d.g n) := by
  cases d with
  | p m vs => exact Ns_cons (Nl.map fun _ _ => rfl) rfl
  | b m vs w => exact Ns_cons (Nl.map fun _ _ => rfl) rfl
theorem mark_dd (d : Dd) (s g' : Sto) : S_l_mark [d.y s.length] (s ++ d.g s.length ++ g') = .ok (.int d.m) (s ++ d.g s.length ++ g') := by
  cases d with
  | p m vs =>
    simp only [Dd.y, Dd.m]
    generalize s ++ Dd.g s.length (.p m vs) ++ g' = S
    apply runG_rt
    simp [tyN, isTy]
  | b m vs w =>
    simp only [Dd.y, Dd.m]
    have h : (s ++ Dd.g s.length (.b m vs w) ++ g')[s.length + 2]? = some (.lst [.tup [.int m, .ob s.length], .ob (s.length + 1)]) := by
      rw [List.append_assoc, List.getElem?_append_right (by omega)]
      simp [Dd.g]
    generalize s ++ Dd.g s.length (.b m vs w) ++ g' = S at *
    have r := r_ob h
    apply runG_rt
    simp [r, tyN, isTy]
theorem app_loop {x0 x1 x2 x4 : Option D} {q : Wk} {K : Nat} (hq : ∀ s : Sto, s[K]? = some (.lst q.1) → Stl q s) : ∀ (rest : List Nat) (s : Sto) (y : Option D), s[K]? = some (.lst q.1) → K ∉ rest → (∀ i ∈ rest, ∃ xs, s[i]? = some (.lst xs) ∧ xs.length + rest.length ≤ 5000) → Ns s →
    ∃ y' s', forO q (.nm 5) L_l_thing__l_done_0 (rest.map D.ob) [x0, x1, x2, some (.ob K), x4, y] s = .nx [x0, x1, x2, some (.ob K), x4, y'] s' ∧ (∀ i, i ∉ rest → s'[i]? = s[i]?) ∧ s'.length = s.length ∧ Ns s'
  | [], s, y, hK, _, _, hn => ⟨y, s, by simp only [List.map_nil, forO, if_pos (hq s hK)], fun i _ => rfl, rfl, hn⟩
  | i :: rest, s, y, hK, hKn, hl, hn => by
    obtain ⟨xs, hx, hxl⟩ := hl i (by simp)
    simp only [List.length_cons] at hxl hl
    have hi : i < s.length := (List.getElem?_eq_some_iff.mp hx).1
    have hKi : K ≠ i := fun e => hKn (by simp [e])
    obtain ⟨s1, hs1⟩ : ∃ s1, s.set i (.lst (xs ++ [.int 0])) = s1 := ⟨_, rfl⟩
    have g1 : ∀ j, j ≠ i → s1[j]? = s[j]? := fun j hj => by rw [← hs1, List.getElem?_set_ne (Ne.symm hj)]
    have g2 : s1[i]? = some (.lst (xs ++ [.int 0])) := by rw [← hs1, List.getElem?_set_self hi]
    have n1 : Ns s1 := by
      rw [← hs1]
      exact hn.set (o := .lst _) (Nl.app (hn.get hx) (Nl.cons rfl Nl.nil))
    obtain ⟨y', s', e, k3, k4, k5⟩ := app_loop (x0 := x0) (x1 := x1) (x2 := x2) (x4 := x4) hq rest s1 (some (.ob i)) (by rw [g1 K hKi]; exact hK) (fun h => hKn (by simp [h])) (fun j hj => by
      obtain ⟨b, c, d⟩ := hl j (by simp [hj])
      by_cases hji : j = i
      · subst hji
        rw [hx] at c
        cases c
        exact ⟨_, g2, by rw [List.length_append, List.length_singleton]; omega⟩
      · exact ⟨b, by rw [g1 j hji]; exact c, by omega⟩) n1
    refine ⟨y', s', ?_, fun j hj => ?_, by rw [k4, ← hs1]; simp, k5⟩
    · have ls : lsO s (.ob i) = some xs := lsO_ob hx
      have lx : xs.length < sizeLine := small_line (n := xs.length + 1) (by omega)
      have eb : L_l_thing__l_done_0 [x0, x1, x2, some (.ob K), x4, some (.ob i)] s = .nx [x0, x1, x2, some (.ob K), x4, some (.ob i)] s1 := by
        have st : stO s (.ob i) (xs ++ [.int 0]) = s1 := by rw [← hs1]; rfl
        simp only [L_l_thing__l_done_0, v_sDrop, v_eApp]
        simp [ls, lx, hs1]
      simp only [List.map_cons, forO, if_pos (hq s hK), v_nm, List.set_cons_succ, List.set_cons_zero]
      rw [eb]
      exact e
    · have hji : j ≠ i := fun e => hj (by simp [e])
      rw [k3 j (fun h => hj (by simp [h])), g1 j hji]
def lenAt (S : Sto) (i : Nat) : Nat := match S[i]? with
  | some (.lst xs) => xs.length
  | _ => 0
theorem ix_at (d : Dd) (hv : d.vs.length ≤ 2) (s g' : Sto) : ∀ i ∈ d.ix s.length, s.length ≤ i ∧ i < (s ++ d.g s.length).length ∧ ∃ xs, (s ++ d.g s.length ++ g')[i]? = some (.lst xs) ∧ xs.length ≤ 2 := by
  intro i hi
  rw [List.append_assoc]
  cases d with
  | p m vs =>
    simp only [Dd.ix, List.mem_singleton] at hi
    subst hi
    refine ⟨Nat.le_refl _, by simp [Dd.g], vs.map .int, ?_, by rw [List.length_map]; exact hv⟩
    rw [List.getElem?_append_right (Nat.le_refl _)]
    simp [Dd.g]
  | b m vs w =>
    simp only [Dd.ix, List.mem_cons, List.not_mem_nil, or_false] at hi
    rcases hi with rfl | rfl | rfl
    · refine ⟨by omega, by simp [Dd.g], [.tup [.int m, .ob s.length], .ob (s.length + 1)], ?_, by simp⟩
      rw [List.getElem?_append_right (by omega)]
      simp [Dd.g]
    · refine ⟨Nat.le_refl _, by simp [Dd.g], vs.map .int, ?_, by rw [List.length_map]; exact hv⟩
      rw [List.getElem?_append_right (Nat.le_refl _)]
      simp [Dd.g]
    · refine ⟨by omega, by simp [Dd.g], [.int w], ?_, by simp⟩
      rw [List.getElem?_append_right (by omega)]
      simp [Dd.g]
theorem ix_sum (d : Dd) (s g' : Sto) : ((d.ix s.length).map fun i => (lenAt (s ++ d.g s.length ++ g') i : Int)).sum = d.t ∧ ((d.ix s.length).length : Int) = d.n := by
  rw [List.append_assoc]
  have at_ : ∀ j, (s ++ (d.g s.length ++ g'))[s.length + j]? = (d.g s.length ++ g')[j]? := fun j => by rw [List.getElem?_append_right (by omega)]; congr 1; omega
  have h0 := at_ 0
  have h1 := at_ 1
  have h2 := at_ 2
  rw [Nat.add_zero] at h0
  cases d with
  | p m vs => simp [Dd.ix, Dd.t, Dd.n, lenAt, h0, Dd.g]
  | b m vs w =>
    simp [Dd.ix, Dd.t, Dd.n, lenAt, h0, h1, h2, Dd.g]
end Law

/-! V81c: k81: a thing's answer; the closures. -/
namespace Law
open PySem L2 Gs
def ones (k : Nat) : List D := List.replicate k (.int 1)
def fl (bad : Int) (d : Dd) : Int := if d.m = bad then 1 else 0
def ansD (bad : Int) (k : Nat) (d : Dd) : D := .lst [.int d.n, .int (d.t + fl bad d), .int (k : Int)]
theorem done_run {c st d r : D} {s s' : Sto} (h : (sSeq (sSet 3 (eCall (S_l_lists 20) (aCons (eV 1) (aNil))))
    (sSeq (sSet 4 (eFz (fLst (aCons (eFn gLen (aCons (eV 3) (aNil))) (aCons (eBin gAdd (eFn gSumA (aCons (eFz (fLcO (iSeqO (eV 3)) [5] (.nm 5) (tTrue) (eFn gLen (aCons (eV 5) (aNil))))) (aNil))) (eFn gInt (aCons (eBin gEq (eCall S_l_mark (aCons (eV 1) (aNil))) (eV 2)) (aNil)))) (aCons (eFn gLen (aCons (eV 0) (aNil))) (aNil)))))))
    (sSeq (sForO (iSeqO (eV 3)) (.nm 5) (L_l_thing__l_done_0))
    (sSeq (sDrop (eApp (eV 0) (eC (.int 1))))
    (sRet (eTup (aCons (eV 0) (aCons (eV 4) (aNil))))))))) [some st, some d, some c, none, none, none] s = .rt r s') : S_l_thing__l_done [c] [st, d] s = .ok r s' := by
  unfold S_l_thing__l_done Gs.runN
  simp only [List.map_cons, List.map_nil, List.length_cons, List.length_nil]
  exact congrArg (fun r : RS => match r with
    | .nx _ s' => R.ok D.non s'
    | .rt d s' => R.ok d s'
    | _ => R.stk) h
theorem done_val (bad : Int) (d : Dd) (hv : d.vs.length ≤ 2) (k A : Nat) (s : Sto) (hA : s[A]? = some (.lst (ones k))) (hk : k ≤ 2000) (hn : Ns s) :
    ∃ S', S_l_thing__l_done [.int bad] [.ob A, d.y s.length] (s ++ d.g s.length) = .ok (.tup [.ob A, ansD bad k d]) S' ∧ Ns S' ∧ S'[A]? = some (.lst (ones (k + 1))) ∧ (∀ i, i < s.length → i ≠ A → S'[i]? = s[i]?) ∧ s.length ≤ S'.length := by
  have hAl : A < s.length := (List.getElem?_eq_some_iff.mp hA).1
  have ixl : (d.ix s.length).length ≤ 3 := by cases d <;> simp [Dd.ix]
  obtain ⟨g, ng, e0⟩ := li_val 4 (d.y s.length) (d.ix s.length) (s ++ d.g s.length) (tl_dd d hv s) (by omega) 15
  have e1 : S_l_lists 20 [d.y s.length] (s ++ d.g s.length) = .ok (.ob (s ++ d.g s.length).length) (s ++ d.g s.length ++ O.lst ((d.ix s.length).map D.ob) :: g) := e0
  clear e0
  obtain ⟨K, hKd⟩ : ∃ K, (s ++ d.g s.length).length = K := ⟨_, rfl⟩
  obtain ⟨G, hG⟩ : ∃ G, O.lst ((d.ix s.length).map D.ob) :: g = G := ⟨_, rfl⟩
  have hKlen : s.length ≤ K := by rw [← hKd, List.length_append]; omega
  have iat := ix_at d hv s G
  obtain ⟨sm, ln⟩ := ix_sum d s G
  have mk := mark_dd d s G
  have hK : (s ++ d.g s.length ++ G)[K]? = some (.lst ((d.ix s.length).map D.ob)) := by rw [← hKd, ← hG]; exact get_mid _ _ _
  have n1 : Ns (s ++ d.g s.length ++ G) := by
    rw [← hG]
    exact (hn.app (ns_g _ d)).app (Ns_cons (Nl.map fun _ _ => rfl) ng)
  have hA1 : (s ++ d.g s.length ++ G)[A]? = some (.lst (ones k)) := by
    rw [List.append_assoc, List.getElem?_append_left hAl]
    exact hA
  have old : ∀ i, i < s.length → (s ++ d.g s.length ++ G)[i]? = s[i]? := fun i hi => by rw [List.append_assoc, List.getElem?_append_left hi]
  have len1 : s.length ≤ (s ++ d.g s.length ++ G).length := by simp
  rw [hG, hKd] at e1
  rw [hKd] at iat
  generalize d.ix s.length = ix at *
  generalize d.y s.length = y at *
  generalize s ++ d.g s.length ++ G = S1 at *
  generalize s ++ d.g s.length = S0 at *
  have hq : ∀ s' : Sto, s'[K]? = some (.lst (ix.map D.ob)) → Stl (ix.map D.ob, some K) s' := fun s' h => stl_some h
  have w1 : wkOf S1 (.ob K) = some (ix.map D.ob, some K) := wk_ob hK
  have lix : ix.length ≤ sizeLine := small_line (by omega)
  have lens : lcO (ix.map D.ob, some K) (.nm 5) tTrue (eFn gLen (aCons (eV 5) (aNil))) [some (.ob A), some y, some (.int bad), some (.ob K), none, none] (ix.map D.ob) S1 = .ok (ix.map fun i => .int (lenAt S1 i : Int)) S1 := by
    refine lcO_keep (hq S1 hK) D.ob _ ix fun i hi => ⟨_, by simp; rfl, by simp, ?_⟩
    obtain ⟨_, _, xs, hx, hxl⟩ := iat i hi
    have r : rsv S1 (.ob i) = .lst xs := r_ob hx
    have lx : xs.length ≤ sizeLine := small_line (by omega)
    have la : lenAt S1 i = xs.length := by unfold lenAt; rw [hx]
    simp [r, lx, la]
  have io : intsOf (ix.map fun i => D.int (lenAt S1 i : Int)) = some (ix.map fun i => (lenAt S1 i : Int)) := by
    have : ix.map (fun i => D.int (lenAt S1 i : Int)) = (ix.map fun i => (lenAt S1 i : Int)).map D.int := by rw [List.map_map]; rfl
    rw [this, intsOf_map]
  have l9 : (ix.map fun i => D.int (lenAt S1 i : Int)).length ≤ sizeLine := by rw [List.length_map]; exact lix
  generalize ix.map (fun i => D.int (lenAt S1 i : Int)) = ls at *
  have rA := r_ob hA1
  have rK := r_ob hK
  have lo : (ones k).length = k := List.length_replicate
  have lk : k ≤ sizeLine := small_line (by omega)
  have lk1 : k < sizeLine := small_line (n := k + 1) (by omega)
  have hKx : ∀ i ∈ ix, i ≠ K ∧ i ≠ A := fun i hi => by
    obtain ⟨a, b, _⟩ := iat i hi
    omega
  obtain ⟨y', S2, e2, k3, k4, k5⟩ := app_loop (x0 := some (.ob A)) (x1 := some y) (x2 := some (.int bad)) (x4 := some (ansD bad k d)) (q := (ix.map D.ob, some K)) (K := K) hq ix S1 none hK (fun h => (hKx K h).1 rfl) (fun i hi => by
    obtain ⟨_, _, xs, hx, hxl⟩ := iat i hi
    exact ⟨xs, hx, by omega⟩) n1
  have hA2 : S2[A]? = some (.lst (ones k)) := by rw [k3 A (fun h => (hKx A h).2 rfl)]; exact hA1
  have ls2 : lsO S2 (.ob A) = some (ones k) := lsO_ob hA2
  have hA2l : A < S2.length := (List.getElem?_eq_some_iff.mp hA2).1
  have o1 : ones k ++ [.int 1] = ones (k + 1) := by unfold ones; rw [List.replicate_succ']
  refine ⟨S2.set A (.lst (ones (k + 1))), ?_, ?_, ?_, ?_, ?_⟩
  · refine done_run ?_
    have l3 : 3 ≤ sizeLine := small_line (by omega)
    have m1 : (ix.map D.ob).length ≤ sizeLine := by rw [List.length_map]; exact lix
    have m2 : ((ix.map D.ob).length : Int) = d.n := by rw [List.length_map]; exact ln
    generalize ix.map D.ob = obs at *
    refine sq_nx (δ' := [some (.ob A), some y, some (.int bad), some (.ob K), none, none]) (s' := S1) (by simp [e1]) ?_
    refine sq_nx (δ' := [some (.ob A), some y, some (.int bad), some (.ob K), some (ansD bad k d), none]) (s' := S1) ?_ ?_
    · unfold ansD fl
      by_cases hb : d.m = bad
      · simp [rK, rA, m1, m2, w1, wipeD, lens, io, l9, sm, mk, hb, lo, lk, l3]
      · simp [rK, rA, m1, m2, w1, wipeD, lens, io, l9, sm, mk, hb, lo, lk, l3]
    generalize ansD bad k d = an at *
    refine sq_nx (δ' := [some (.ob A), some y, some (.int bad), some (.ob K), some an, y']) (s' := S2) (by simp [w1, e2]) ?_
    refine sq_nx (δ' := [some (.ob A), some y, some (.int bad), some (.ob K), some an, y']) (s' := S2.set A (.lst (ones (k + 1)))) (by
      have st : stO S2 (.ob A) (ones (k + 1)) = S2.set A (.lst (ones (k + 1))) := rfl
      simp only [v_sDrop, v_eApp]
      simp [ls2, lo, lk1, o1]) ?_
    simp
  · exact k5.set (o := .lst _) (Nl.of fun x m => by
      unfold ones at m
      rw [List.eq_of_mem_replicate m]
      rfl)
  · rw [List.getElem?_set_self hA2l]
  · intro i hi hiA
    rw [List.getElem?_set_ne (Ne.symm hiA), k3 i (fun h => by obtain ⟨a, _⟩ := iat i h; omega)]
    exact old i hi
  · rw [List.length_set, k4]
    exact len1
end Law

/-! V81d: k81: where a thing and a model go apart; the judges. -/
namespace Law
open PySem L2 Gs
theorem forD_nx {p : Pt} {body : S} {d : D} {ds : List D} {δ δ1 δ2 : Sl} {s s2 : Sto} (h1 : bindP p d δ = some δ1) (h2 : body δ1 s = .nx δ2 s2) : forD p body (d :: ds) δ s = forD p body ds δ2 s2 := by
  simp only [forD, h1, h2]
noncomputable abbrev Tbg : CT := ctAdd K_l_still__l_begin S_l_still__l_begin (ctAdd K_l_thing__l_begin S_l_thing__l_begin ctNil)
noncomputable abbrev Tdn : CT := ctAdd K_l_still__l_done S_l_still__l_done (ctAdd K_l_thing__l_done S_l_thing__l_done ctNil)
noncomputable abbrev TJ : CT := ctAdd K_deed_judge__judge S_deed_judge__judge ctNil
abbrev cBeg : D := .clo K_l_thing__l_begin []
abbrev cDon (a : Int) : D := .clo K_l_thing__l_done [.int a]
abbrev cBegS : D := .clo K_l_still__l_begin []
abbrev cDonS : D := .clo K_l_still__l_done []
theorem tb_thing : Tbg K_l_thing__l_begin = some S_l_thing__l_begin := (ctAdd_ne (by decide)).trans ctAdd_same
theorem tb_still : Tbg K_l_still__l_begin = some S_l_still__l_begin := ctAdd_same
theorem td_thing : Tdn K_l_thing__l_done = some S_l_thing__l_done := (ctAdd_ne (by decide)).trans ctAdd_same
theorem td_still : Tdn K_l_still__l_done = some S_l_still__l_done := ctAdd_same
theorem begin_val (s : Sto) : S_l_thing__l_begin [] [] s = .ok (.ob s.length) (s ++ [.lst []]) := by
  have body : (sRet (eNw (fLst (aNil)))) [] s = .rt (.ob s.length) (s ++ [.lst []]) := by simp
  unfold S_l_thing__l_begin Gs.runN
  simp only [List.map_nil, List.length_nil]
  exact congrArg (fun r : RS => match r with
    | .nx _ s' => R.ok D.non s'
    | .rt d s' => R.ok d s'
    | _ => R.stk) body
theorem beginS_val (s : Sto) : S_l_still__l_begin [] [] s = .ok .non s := by
  have body : (sRet (eC .non)) [] s = .rt .non s := by simp
  unfold S_l_still__l_begin Gs.runN
  simp only [List.map_nil, List.length_nil]
  exact congrArg (fun r : RS => match r with
    | .nx _ s' => R.ok D.non s'
    | .rt d s' => R.ok d s'
    | _ => R.stk) body
theorem doneS_val (x y : D) (s : Sto) : S_l_still__l_done [] [x, y] s = .ok (.tup [x, .non]) s := by
  have s2 : 2 ≤ sizeLine := small_line (by omega)
  have body : (sRet (eTup (aCons (eV 0) (aCons (eC .non) (aNil))))) [some x, some y] s = .rt (.tup [x, .non]) s := by simp [s2]
  unfold S_l_still__l_done Gs.runN
  simp only [List.map_cons, List.map_nil, List.length_cons, List.length_nil]
  exact congrArg (fun r : RS => match r with
    | .nx _ s' => R.ok D.non s'
    | .rt d s' => R.ok d s'
    | _ => R.stk) body
theorem ask_beg {i : Nat} {s : Sto} {δ : Sl} (hi : δ[i]? = some (some cBeg)) (hn : Ns s) : eClo Tbg i aNil δ s = .ok (.ob s.length) (s ++ [.lst []]) := by
  unfold eClo
  rw [hi]
  simp only
  rw [tb_thing]
  simp only [v_aNil, v_bind_ok]
  rw [if_pos ⟨Nl.nil, hn⟩, begin_val]
theorem ask_begS {i : Nat} {s : Sto} {δ : Sl} (hi : δ[i]? = some (some cBegS)) (hn : Ns s) : eClo Tbg i aNil δ s = .ok .non s := by
  unfold eClo
  rw [hi]
  simp only
  rw [tb_still]
  simp only [v_aNil, v_bind_ok]
  rw [if_pos ⟨Nl.nil, hn⟩, beginS_val]
theorem y_nd (d : Dd) (n : Nat) : Nd (d.y n) := by cases d <;> rfl
theorem ask_don (a : Int) (d : Dd) (hv : d.vs.length ≤ 2) (k A : Nat) (s : Sto) (hA : s[A]? = some (.lst (ones k))) (hk : k ≤ 2000) (hn : Ns s) {i : Nat} {δ : Sl} {as : As} (hi : δ[i]? = some (some (cDon a))) (ha : as δ s = .ok [.ob A, d.y s.length] (s ++ d.g s.length)) :
    ∃ S', eClo Tdn i as δ s = .ok (.tup [.ob A, ansD a k d]) S' ∧ Ns S' ∧ S'[A]? = some (.lst (ones (k + 1))) ∧ (∀ i, i < s.length → i ≠ A → S'[i]? = s[i]?) ∧ s.length ≤ S'.length := by
  obtain ⟨S', e, h⟩ := done_val a d hv k A s hA hk hn
  refine ⟨S', ?_, h⟩
  unfold eClo
  rw [hi]
  simp only
  rw [td_thing]
  simp only [ha, v_bind_ok]
  rw [if_pos ⟨Nl.cons rfl (Nl.cons (y_nd d _) Nl.nil), hn.app (ns_g _ d)⟩, e]
theorem ask_donS (d : Dd) (x : D) (hx : Nd x) (s : Sto) (hn : Ns s) {i : Nat} {δ : Sl} {as : As} (hi : δ[i]? = some (some cDonS)) (ha : as δ s = .ok [x, d.y s.length] (s ++ d.g s.length)) :
    eClo Tdn i as δ s = .ok (.tup [x, .non]) (s ++ d.g s.length) := by
  unfold eClo
  rw [hi]
  simp only
  rw [td_still]
  simp only [ha, v_bind_ok]
  rw [if_pos ⟨Nl.cons hx (Nl.cons (y_nd d _) Nl.nil), hn.app (ns_g _ d)⟩, doneS_val]
theorem same_int (k : Nat) (i j : Int) (s : Sto) : S_same (k + 1) [.int i, .int j] s = .ok (.bl (decide (i = j))) s := by
  have ok : S_one_kind [.int i, .int j] s = .ok (.bl true) s := by
    apply runG_rt
    simp [tyN, isTy]
  have ir : S_is_row [.int i] s = .ok (.bl false) s := by
    apply runG_rt
    simp [gIsi2, tyN, isTy]
  show U_same (S_same k) _ s = _
  apply runG_rt
  simp [ok, ir]
theorem same_non (k : Nat) (s : Sto) : S_same (k + 1) [.non, .non] s = .ok (.bl true) s := by
  have ok : S_one_kind [.non, .non] s = .ok (.bl true) s := by
    apply runG_rt
    simp [tyN, isTy, gIsN]
  have ir : S_is_row [.non] s = .ok (.bl false) s := by
    apply runG_rt
    simp [gIsi2, tyN, isTy]
  show U_same (S_same k) _ s = _
  apply runG_rt
  simp [ok, ir]
theorem same_ans (a b : Int) (k : Nat) (d : Dd) (s : Sto) : S_same 20 [ansD a k d, ansD b k d] s = .ok (.bl (decide (fl a d = fl b d))) s := by
  have ok : S_one_kind [ansD a k d, ansD b k d] s = .ok (.bl true) s := by
    unfold ansD
    apply runG_rt
    simp [tyN, isTy, gIsN]
  have ir : S_is_row [ansD a k d] s = .ok (.bl true) s := by
    unfold ansD
    apply runG_rt
    simp [gIsi2, tyN, isTy]
  have e1 := same_int 18 d.n d.n s
  have e2 := same_int 18 (d.t + fl a d) (d.t + fl b d) s
  have e3 := same_int 18 (k : Int) k s
  have ee : decide (d.t + fl a d = d.t + fl b d) = decide (fl a d = fl b d) := by
    rw [decide_eq_decide]
    omega
  rw [ee] at e2
  have l3 : 3 ≤ sizeLine := small_line (by omega)
  simp only [decide_true] at e1 e3
  unfold ansD at ok ir ⊢
  generalize decide (fl a d = fl b d) = q at *
  generalize d.t + fl a d = u1 at *
  generalize d.t + fl b d = u2 at *
  generalize (k : Int) = u3 at *
  generalize d.n = u4 at *
  show U_same (S_same 19) _ s = _
  apply runG_rt
  cases q <;> simp [ok, ir, e1, e2, e3, l3, zipD, lcD, bindP, gAll, blsOf, wipeD]
def fst (a b : Int) : List Dd → Option Nat
  | [] => none
  | d :: ds => if fl a d = fl b d then (fst a b ds).map (· + 1) else some 0
def en (j : Nat) (ds : List Dd) : List D := ((ds.map Dd.d).zipIdx j).map fun p => .tup [.int (p.2 : Nat), p.1]
theorem en_s (j : Nat) (d : Dd) (ds : List Dd) : en j (d :: ds) = .tup [.int (j : Int), d.d] :: en (j + 1) ds := by simp [en]
theorem en0 (ds : List Dd) : enumD (ds.map Dd.d) = en 0 ds := rfl
theorem rs_dd (s : Sto) (d : Dd) : rsv s d.d = d.d := by cases d <;> rfl
theorem apart_loop (a b : Int) {A C : Nat} (hAC : A ≠ C) {x0 x2 x4 : Option D} : ∀ (ds : List Dd) (j k : Nat) (s : Sto) (x7 x8 x9 x10 : Option D), Ns s → s[A]? = some (.lst (ones k)) → s[C]? = some (.lst (ones k)) → k + ds.length ≤ 1500 → (∀ d ∈ ds, d.vs.length ≤ 2) →
    ∃ s', Ns s' ∧ (∀ i, i < s.length → i ≠ A → i ≠ C → s'[i]? = s[i]?) ∧ s.length ≤ s'.length ∧
      ((∃ m, fst a b ds = some m ∧ forD (.tp [.nm 7, .nm 8]) L_apart_0 (en j ds) [x0, some (cDon a), x2, some (cDon b), x4, some (.ob A), some (.ob C), x7, x8, x9, x10] s = .rt (.int ((j + m : Nat) : Int)) s') ∨
       (fst a b ds = none ∧ ∃ y7 y8 y9 y10, forD (.tp [.nm 7, .nm 8]) L_apart_0 (en j ds) [x0, some (cDon a), x2, some (cDon b), x4, some (.ob A), some (.ob C), x7, x8, x9, x10] s = .nx [x0, some (cDon a), x2, some (cDon b), x4, some (.ob A), some (.ob C), y7, y8, y9, y10] s'))
  | [], j, k, s, x7, x8, x9, x10, hn, g1, g2, _, _ => ⟨s, hn, fun _ _ _ _ => rfl, Nat.le_refl _, .inr ⟨rfl, x7, x8, x9, x10, rfl⟩⟩
  | d :: ds, j, k, s, x7, x8, x9, x10, hn, g1, g2, hl, hv => by
    simp only [List.length_cons] at hl
    have hvd := hv d (by simp)
    have lA : A < s.length := (List.getElem?_eq_some_iff.mp g1).1
    have lC : C < s.length := (List.getElem?_eq_some_iff.mp g2).1
    have rd := rs_dd s d
    have own1 := own_dd 16 d hvd s
    obtain ⟨s1, q1, n1, a1, o1, le1⟩ := ask_don a d hvd k A s g1 (by omega) hn (i := 1) (as := aCons (eV 5) (aCons (eCall (S_own_copy 20) (aCons (eV 8) (aNil))) (aNil))) (δ := [x0, some (cDon a), x2, some (cDon b), x4, some (.ob A), some (.ob C), some (.int (j : Int)), some d.d, x9, x10]) rfl (by
      generalize d.y s.length = y at *
      generalize d.d = dd at *
      generalize d.g s.length = G at *
      simp [own1])
    have c1 : s1[C]? = some (.lst (ones k)) := by rw [o1 C lC (Ne.symm hAC)]; exact g2
    have own2 := own_dd 16 d hvd s1
    obtain ⟨s2, q2, n2, a2, o2, le2⟩ := ask_don b d hvd k C s1 c1 (by omega) n1 (i := 3) (as := aCons (eV 6) (aCons (eCall (S_own_copy 20) (aCons (eV 8) (aNil))) (aNil))) (δ := [x0, some (cDon a), x2, some (cDon b), x4, some (.ob A), some (.ob C), some (.int (j : Int)), some d.d, some (ansD a k d), x10]) rfl (by
      generalize d.y s1.length = y at *
      generalize d.d = dd at *
      generalize d.g s1.length = G at *
      simp [own2])
    have b2 : s2[A]? = some (.lst (ones (k + 1))) := by rw [o2 A (by omega) hAC]; exact a1
    have far : ∀ i, i < s.length → i ≠ A → i ≠ C → s2[i]? = s[i]? := fun i hi i1 i2 => (o2 i (by omega) i2).trans (o1 i hi i1)
    have sm := same_ans a b k d s2
    have st1 : sAsg (.tp [.nm 5, .nm 9]) (eClo Tdn 1 (aCons (eV 5) (aCons (eCall (S_own_copy 20) (aCons (eV 8) (aNil))) (aNil)))) [x0, some (cDon a), x2, some (cDon b), x4, some (.ob A), some (.ob C), some (.int (j : Int)), some d.d, x9, x10] s = .nx [x0, some (cDon a), x2, some (cDon b), x4, some (.ob A), some (.ob C), some (.int (j : Int)), some d.d, some (ansD a k d), x10] s1 := by
      rw [v_sAsg, q1]
      generalize d.d = dd at *
      simp
    have st2 : sAsg (.tp [.nm 6, .nm 10]) (eClo Tdn 3 (aCons (eV 6) (aCons (eCall (S_own_copy 20) (aCons (eV 8) (aNil))) (aNil)))) [x0, some (cDon a), x2, some (cDon b), x4, some (.ob A), some (.ob C), some (.int (j : Int)), some d.d, some (ansD a k d), x10] s1 = .nx [x0, some (cDon a), x2, some (cDon b), x4, some (.ob A), some (.ob C), some (.int (j : Int)), some d.d, some (ansD a k d), some (ansD b k d)] s2 := by
      rw [v_sAsg, q2]
      generalize d.d = dd at *
      simp
    rw [en_s]
    have bp : bindP (.tp [.nm 7, .nm 8]) (.tup [.int (j : Int), d.d]) [x0, some (cDon a), x2, some (cDon b), x4, some (.ob A), some (.ob C), x7, x8, x9, x10] = some [x0, some (cDon a), x2, some (cDon b), x4, some (.ob A), some (.ob C), some (.int (j : Int)), some d.d, x9, x10] := by
      generalize d.d = dd at *
      simp
    by_cases e : fl a d = fl b d
    · rw [decide_eq_true e] at sm
      have re : fst a b (d :: ds) = (fst a b ds).map (· + 1) := by simp [fst, e]
      have bb : L_apart_0 [x0, some (cDon a), x2, some (cDon b), x4, some (.ob A), some (.ob C), some (.int (j : Int)), some d.d, x9, x10] s = .nx [x0, some (cDon a), x2, some (cDon b), x4, some (.ob A), some (.ob C), some (.int (j : Int)), some d.d, some (ansD a k d), some (ansD b k d)] s2 := by
        unfold L_apart_0
        refine sq_nx st1 (sq_nx st2 ?_)
        generalize cDon a = c1 at *
        generalize cDon b = c2 at *
        generalize ansD a k d = z1 at *
        generalize ansD b k d = z2 at *
        simp [sm]
      obtain ⟨s', n', f', le', alt⟩ := apart_loop a b hAC (x0 := x0) (x2 := x2) (x4 := x4) ds (j + 1) (k + 1) s2 (some (.int (j : Int))) (some d.d) (some (ansD a k d)) (some (ansD b k d)) n2 b2 a2 (by omega) fun x hx => hv x (by simp [hx])
      refine ⟨s', n', fun i hi i1 i2 => (f' i (by omega) i1 i2).trans (far i hi i1 i2), by omega, ?_⟩
      rcases alt with ⟨m, hm, f⟩ | ⟨hm, y7, y8, y9, y10, f⟩
      · refine .inl ⟨m + 1, by rw [re, hm]; rfl, ?_⟩
        rw [show j + (m + 1) = j + 1 + m by omega]
        exact (forD_nx bp bb).trans f
      · exact .inr ⟨by rw [re, hm]; rfl, y7, y8, y9, y10, (forD_nx bp bb).trans f⟩
    · rw [decide_eq_false e] at sm
      have re : fst a b (d :: ds) = some 0 := by simp [fst, e]
      refine ⟨s2, n2, far, by omega, .inl ⟨0, re, ?_⟩⟩
      have bb : L_apart_0 [x0, some (cDon a), x2, some (cDon b), x4, some (.ob A), some (.ob C), some (.int (j : Int)), some d.d, x9, x10] s = .rt (.int ((j + 0 : Nat) : Int)) s2 := by
        unfold L_apart_0
        refine sq_nx st1 (sq_nx st2 ?_)
        generalize cDon a = c1 at *
        generalize cDon b = c2 at *
        generalize ansD a k d = z1 at *
        generalize ansD b k d = z2 at *
        simp [sm]
      simp only [forD, bp, bb]
theorem still_loop {x0 x2 x4 : Option D} : ∀ (ds : List Dd) (j : Nat) (s : Sto) (x7 x8 x9 x10 : Option D), Ns s → (∀ d ∈ ds, d.vs.length ≤ 2) →
    ∃ g y7 y8 y9 y10, Ns (s ++ g) ∧ forD (.tp [.nm 7, .nm 8]) L_apart_0 (en j ds) [x0, some cDonS, x2, some cDonS, x4, some .non, some .non, x7, x8, x9, x10] s = .nx [x0, some cDonS, x2, some cDonS, x4, some .non, some .non, y7, y8, y9, y10] (s ++ g)
  | [], j, s, x7, x8, x9, x10, hn, _ => ⟨[], x7, x8, x9, x10, by simpa using hn, by simp [en, forD]⟩
  | d :: ds, j, s, x7, x8, x9, x10, hn, hv => by
    have hvd := hv d (by simp)
    have own1 := own_dd 16 d hvd s
    have q1 := ask_donS d .non rfl s hn (i := 1) (as := aCons (eV 5) (aCons (eCall (S_own_copy 20) (aCons (eV 8) (aNil))) (aNil))) (δ := [x0, some cDonS, x2, some cDonS, x4, some .non, some .non, some (.int (j : Int)), some d.d, x9, x10]) rfl (by
      generalize d.y s.length = y at *
      generalize d.d = dd at *
      generalize d.g s.length = G at *
      simp [own1])
    obtain ⟨g1, hg1⟩ : ∃ g1, d.g s.length = g1 := ⟨_, rfl⟩
    have n1 : Ns (s ++ g1) := by rw [← hg1]; exact hn.app (ns_g _ d)
    rw [hg1] at q1
    have own2 := own_dd 16 d hvd (s ++ g1)
    have q2 := ask_donS d .non rfl (s ++ g1) n1 (i := 3) (as := aCons (eV 6) (aCons (eCall (S_own_copy 20) (aCons (eV 8) (aNil))) (aNil))) (δ := [x0, some cDonS, x2, some cDonS, x4, some .non, some .non, some (.int (j : Int)), some d.d, some .non, x10]) rfl (by
      generalize d.y (s ++ g1).length = y at *
      generalize d.d = dd at *
      generalize d.g (s ++ g1).length = G at *
      generalize s ++ g1 = S1 at *
      simp [own2])
    obtain ⟨g2, hg2⟩ : ∃ g2, d.g (s ++ g1).length = g2 := ⟨_, rfl⟩
    have n2 : Ns (s ++ g1 ++ g2) := by rw [← hg2]; exact n1.app (ns_g _ d)
    rw [hg2] at q2
    obtain ⟨g3, y7, y8, y9, y10, n3, f⟩ := still_loop (x0 := x0) (x2 := x2) (x4 := x4) ds (j + 1) (s ++ g1 ++ g2) (some (.int (j : Int))) (some d.d) (some .non) (some .non) n2 fun x hx => hv x (by simp [hx])
    refine ⟨g1 ++ g2 ++ g3, y7, y8, y9, y10, by simpa using n3, ?_⟩
    have ea : s ++ (g1 ++ g2 ++ g3) = s ++ g1 ++ g2 ++ g3 := by simp
    rw [ea, en_s]
    have bp : bindP (.tp [.nm 7, .nm 8]) (.tup [.int (j : Int), d.d]) [x0, some cDonS, x2, some cDonS, x4, some .non, some .non, x7, x8, x9, x10] = some [x0, some cDonS, x2, some cDonS, x4, some .non, some .non, some (.int (j : Int)), some d.d, x9, x10] := by
      generalize d.d = dd at *
      simp
    refine (forD_nx bp ?_).trans f
    have sm := same_non 19 (s ++ g1 ++ g2)
    generalize s ++ g1 ++ g2 = S2 at *
    generalize s ++ g1 = S1 at *
    unfold L_apart_0
    refine sq_nx (δ' := [x0, some cDonS, x2, some cDonS, x4, some .non, some .non, some (.int (j : Int)), some d.d, some .non, x10]) (s' := S1) (by
      rw [v_sAsg, q1]
      generalize d.d = dd at *
      simp) ?_
    refine sq_nx (δ' := [x0, some cDonS, x2, some cDonS, x4, some .non, some .non, some (.int (j : Int)), some d.d, some .non, some .non]) (s' := S2) (by
      rw [v_sAsg, q2]
      generalize d.d = dd at *
      simp) ?_
    generalize d.d = dd at *
    generalize cDonS = cc at *
    simp [sm]
end Law

/-! V81e: k81: apart, judges, and what the law makes of its cells. -/
namespace Law
open PySem L2 Gs
def oD (o : Option Nat) : D := match o with
  | some k => .int (k : Int)
  | none => .non
abbrev dsD (ds : List Dd) : D := .lst (ds.map Dd.d)
theorem dd_nd (d : Dd) : Nd d.d := by
  cases d with
  | p m vs => exact Nd.tup (Nl.cons rfl (Nl.cons (Nd.lst (Nl.map fun _ _ => rfl)) Nl.nil))
  | b m vs w => exact Nd.lst (Nl.cons (Nd.tup (Nl.cons rfl (Nl.cons (Nd.lst (Nl.map fun _ _ => rfl)) Nl.nil))) (Nl.cons rfl Nl.nil))
theorem ds_nd (ds : List Dd) : Nd (dsD ds) := Nd.lst (Nl.map fun d _ => dd_nd d)
theorem apart_val (a b : Int) (ds : List Dd) (hl : ds.length ≤ 1400) (hv : ∀ d ∈ ds, d.vs.length ≤ 2) (s : Sto) (hn : Ns s) :
    ∃ s', Ns s' ∧ (∀ i, i < s.length → s'[i]? = s[i]?) ∧ s.length ≤ s'.length ∧ S_apart [cBeg, cDon a, cBeg, cDon b, dsD ds] s = .ok (oD (fst a b ds)) s' := by
  have n1 : Ns (s ++ [.lst []]) := hn.one rfl
  have q1 := ask_beg (i := 0) (s := s) (δ := [some cBeg, some (cDon a), some cBeg, some (cDon b), some (dsD ds), none, none, none, none, none, none]) rfl hn
  have q2 := ask_beg (i := 2) (s := s ++ [.lst []]) (δ := [some cBeg, some (cDon a), some cBeg, some (cDon b), some (dsD ds), some (.ob s.length), none, none, none, none, none]) rfl n1
  have e2 : (s ++ [O.lst []]).length = s.length + 1 := by simp
  rw [e2] at q2
  obtain ⟨s2, hs2⟩ : ∃ s2, s ++ [O.lst []] ++ [.lst []] = s2 := ⟨_, rfl⟩
  have n2 : Ns s2 := by rw [← hs2]; exact n1.one rfl
  have c1 : s2[s.length]? = some (.lst (ones 0)) := by rw [← hs2]; simp [ones]
  have c2 : s2[s.length + 1]? = some (.lst (ones 0)) := by rw [← hs2, ← e2]; exact get_last _ _
  have old : ∀ i, i < s.length → s2[i]? = s[i]? := fun i hi => by rw [← hs2, List.append_assoc, List.getElem?_append_left hi]
  have len2 : s2.length = s.length + 2 := by rw [← hs2]; simp
  rw [hs2] at q2
  obtain ⟨s', n', far, le', alt⟩ := apart_loop a b (A := s.length) (C := s.length + 1) (by omega) (x0 := some cBeg) (x2 := some cBeg) (x4 := some (dsD ds)) ds 0 0 s2 none none none none n2 c1 c2 (by omega) hv
  refine ⟨s', n', fun i hi => (far i (by omega) (by omega) (by omega)).trans (old i hi), by omega, ?_⟩
  have it : iEnumD (aCons (eV 4) (aNil)) [some cBeg, some (cDon a), some cBeg, some (cDon b), some (dsD ds), some (.ob s.length), some (.ob (s.length + 1)), none, none, none, none] s2 = .ok (en 0 ds) s2 := by
    rw [← en0]
    unfold dsD
    generalize ds.map Dd.d = xs at *
    generalize cBeg = w1 at *
    generalize cDon a = w2 at *
    generalize cDon b = w3 at *
    simp
  refine runG_rt ?_
  refine sq_nx (δ' := [some cBeg, some (cDon a), some cBeg, some (cDon b), some (dsD ds), some (.ob s.length), none, none, none, none, none]) (s' := s ++ [.lst []]) (by
    rw [v_sSet]
    exact (congrArg (fun r => sBind r _ _) q1).trans rfl) ?_
  refine sq_nx (δ' := [some cBeg, some (cDon a), some cBeg, some (cDon b), some (dsD ds), some (.ob s.length), some (.ob (s.length + 1)), none, none, none, none]) (s' := s2) (by
    rw [v_sSet]
    exact (congrArg (fun r => sBind r _ _) q2).trans rfl) ?_
  rcases alt with ⟨k, hk, f⟩ | ⟨hk, y7, y8, y9, y10, f⟩
  · rw [hk]
    refine sq_rt ?_
    rw [v_sFor, it, v_sBind_ok, f, Nat.zero_add]
    rfl
  · rw [hk]
    refine sq_nx (δ' := [some cBeg, some (cDon a), some cBeg, some (cDon b), some (dsD ds), some (.ob s.length), some (.ob (s.length + 1)), y7, y8, y9, y10]) (s' := s') (by rw [v_sFor, it, v_sBind_ok, f]) ?_
    simp [oD]
theorem still_val (ds : List Dd) (hv : ∀ d ∈ ds, d.vs.length ≤ 2) (s : Sto) (hn : Ns s) : ∃ g, Ns (s ++ g) ∧ S_apart [cBegS, cDonS, cBegS, cDonS, dsD ds] s = .ok .non (s ++ g) := by
  have q1 := ask_begS (i := 0) (s := s) (δ := [some cBegS, some cDonS, some cBegS, some cDonS, some (dsD ds), none, none, none, none, none, none]) rfl hn
  have q2 := ask_begS (i := 2) (s := s) (δ := [some cBegS, some cDonS, some cBegS, some cDonS, some (dsD ds), some .non, none, none, none, none, none]) rfl hn
  obtain ⟨g, y7, y8, y9, y10, n', f⟩ := still_loop (x0 := some cBegS) (x2 := some cBegS) (x4 := some (dsD ds)) ds 0 s none none none none hn hv
  refine ⟨g, n', ?_⟩
  have it : iEnumD (aCons (eV 4) (aNil)) [some cBegS, some cDonS, some cBegS, some cDonS, some (dsD ds), some .non, some .non, none, none, none, none] s = .ok (en 0 ds) s := by
    rw [← en0]
    unfold dsD
    generalize ds.map Dd.d = xs at *
    generalize cBegS = w1 at *
    generalize cDonS = w2 at *
    simp
  refine runG_rt ?_
  refine sq_nx (δ' := [some cBegS, some cDonS, some cBegS, some cDonS, some (dsD ds), some .non, none, none, none, none, none]) (s' := s) (by
    rw [v_sSet]
    exact (congrArg (fun r => sBind r _ _) q1).trans rfl) ?_
  refine sq_nx (δ' := [some cBegS, some cDonS, some cBegS, some cDonS, some (dsD ds), some .non, some .non, none, none, none, none]) (s' := s) (by
    rw [v_sSet]
    exact (congrArg (fun r => sBind r _ _) q2).trans rfl) ?_
  refine sq_nx (δ' := [some cBegS, some cDonS, some cBegS, some cDonS, some (dsD ds), some .non, some .non, y7, y8, y9, y10]) (s' := s ++ g) (by rw [v_sFor, it, v_sBind_ok, f]) ?_
  simp
/-! the judges -/
abbrev cJ (a b : Int) : D := .clo K_deed_judge__judge [cBeg, cDon a, cBeg, cDon b]
abbrev cJS : D := .clo K_deed_judge__judge [cBegS, cDonS, cBegS, cDonS]
theorem judge_run {a b c e v r : D} {s s' : Sto} (h : (sRet (eBin gIsN (eCall S_apart (aCons (eV 1) (aCons (eV 2) (aCons (eV 3) (aCons (eV 4) (aCons (eV 0) (aNil))))))) (eC .non))) [some v, some a, some b, some c, some e] s = .rt r s') : S_deed_judge__judge [a, b, c, e] [v] s = .ok r s' := by
  unfold S_deed_judge__judge Gs.runN
  simp only [List.map_cons, List.map_nil, List.length_cons, List.length_nil]
  exact congrArg (fun r : RS => match r with
    | .nx _ s' => R.ok D.non s'
    | .rt d s' => R.ok d s'
    | _ => R.stk) h
theorem ask_jdg (a b : Int) (ds : List Dd) (hl : ds.length ≤ 1400) (hv : ∀ d ∈ ds, d.vs.length ≤ 2) (s : Sto) (hn : Ns s) {i : Nat} {δ : Sl} {as : As} (hi : δ[i]? = some (some (cJ a b))) (ha : as δ s = .ok [dsD ds] s) :
    ∃ s', Ns s' ∧ eClo TJ i as δ s = .ok (.bl (fst a b ds).isNone) s' := by
  obtain ⟨s', n', _, _, e⟩ := apart_val a b ds hl hv s hn
  refine ⟨s', n', ?_⟩
  have j : S_deed_judge__judge [cBeg, cDon a, cBeg, cDon b] [dsD ds] s = .ok (.bl (fst a b ds).isNone) s' := by
    refine judge_run ?_
    generalize cBeg = c0 at *
    generalize cDon a = c1 at *
    generalize cDon b = c2 at *
    generalize dsD ds = dd at *
    cases q : fst a b ds with
    | none =>
      rw [q] at e
      simp [e, oD]
    | some k =>
      rw [q] at e
      have gn : gIsN (.int (k : Int)) .non = some (.bl false) := rfl
      simp [e, oD, gn]
  unfold eClo
  rw [hi]
  simp only
  rw [show TJ K_deed_judge__judge = some S_deed_judge__judge from ctAdd_same]
  simp only [ha, v_bind_ok]
  rw [if_pos ⟨Nl.cons (ds_nd ds) Nl.nil, hn⟩, j]
theorem ask_jdgS (ds : List Dd) (hv : ∀ d ∈ ds, d.vs.length ≤ 2) (s : Sto) (hn : Ns s) {i : Nat} {δ : Sl} {as : As} (hi : δ[i]? = some (some cJS)) (ha : as δ s = .ok [dsD ds] s) :
    ∃ s', Ns s' ∧ eClo TJ i as δ s = .ok (.bl true) s' := by
  obtain ⟨g, n', e⟩ := still_val ds hv s hn
  refine ⟨s ++ g, n', ?_⟩
  have j : S_deed_judge__judge [cBegS, cDonS, cBegS, cDonS] [dsD ds] s = .ok (.bl true) (s ++ g) := by
    refine judge_run ?_
    generalize cBegS = c0 at *
    generalize cDonS = c1 at *
    generalize dsD ds = dd at *
    simp [e]
  unfold eClo
  rw [hi]
  simp only
  rw [show TJ K_deed_judge__judge = some S_deed_judge__judge from ctAdd_same]
  simp only [ha, v_bind_ok]
  rw [if_pos ⟨Nl.cons (ds_nd ds) Nl.nil, hn⟩, j]
/-! what is made -/
theorem thing_made (a : Int) (s : Sto) (h : s[1]? = some (.tab "tab_l_thing" nm_l_thing)) : S_l_thing [.int a] s = .ok (.tup [cBeg, cDon a]) s := by
  unfold S_l_thing runC rRet2
  rw [if_pos h]
  rfl
theorem still_made (s : Sto) (h : s[0]? = some (.tab "tab_l_still" nm_l_still)) : S_l_still [] s = .ok (.tup [cBegS, cDonS]) s := by
  unfold S_l_still runC rRet2
  rw [if_pos h]
  rfl
theorem judge_made (a b c e : D) (s : Sto) (h : s[2]? = some (.tab "tab_deed_judge" nm_deed_judge)) : S_deed_judge [a, b, c, e] s = .ok (.clo K_deed_judge__judge [a, b, c, e]) s := by
  unfold S_deed_judge runC rRet1
  rw [if_pos h]
  rfl
def dof (c : Int) : Dd := if c / 45 % 2 = 1 then .b (c % 5) (List.replicate (c / 5 % 3).toNat (c / 15 % 1000000000)) (c / 90 % 4) else .p (c % 5) (List.replicate (c / 5 % 3).toNat (c / 15 % 1000000000))
theorem dof_ok (c : Int) : (dof c).vs.length ≤ 2 ∧ 0 ≤ (dof c).m := by
  unfold dof
  split
  · simp only [Dd.vs, Dd.m, List.length_replicate]; omega
  · simp only [Dd.vs, Dd.m, List.length_replicate]; omega
theorem deed_val (c : Int) (s : Sto) : S_l_deed [.int c] s = .ok (dof c).d s := by
  have p9 : powOk 10 9 := powOk_10 (by decide) (by decide)
  have t9 : (10 : Int) ^ (9 : Nat) = 1000000000 := by decide
  have d5 : divOk 15 := divOk_small (by decide) (by decide)
  have d45 : divOk 45 := divOk_small (by decide) (by decide)
  have d90 : divOk 90 := divOk_small (by decide) (by decide)
  have l2 : 2 ≤ sizeLine := small_line (by omega)
  have l1 : 1 ≤ sizeLine := small_line (by omega)
  have h0 : -9223372036854775808 ≤ c / 5 % 3 := by omega
  have h1 : c / 5 % 3 < 9223372036854775808 := by omega
  have hr : (c / 5 % 3).toNat ≤ sizeLine := small_line (by omega)
  unfold dof
  by_cases hc : c / 45 % 2 = 1
  · rw [if_pos hc]
    apply runG_rt
    simp [p9, t9, d5, d45, d90, l2, l1, hc, h0, h1, hr, Dd.d, List.map_replicate]
  · rw [if_neg hc]
    apply runG_rt
    simp [p9, t9, d5, d45, d90, l2, l1, hc, h0, h1, hr, Dd.d, List.map_replicate]
end Law

/-! V81f: k81: cells, copies, places. -/
namespace Law
open PySem L2 Gs
theorem cellv (ns : List Int) (hn : ns.length ≤ 63) (k : Nat) : ∃ c : Int, ∀ s : Sto, S_l_cell_at [.lst (ns.map D.int), .int (k : Int)] s = .ok (.int c) s := by
  have hl : ns.length ≤ sizeLine := small_line (by omega)
  by_cases h : k < ns.length
  · have a : atI (ns.map D.int) (k : Int) = some (.int ns[k]) := by rw [atI_ofNat _ (by simpa using h)]; simp
    refine ⟨ns[k], fun s => ?_⟩
    have hi : (k : Int) < (ns.length : Int) := by omega
    apply runG_rt
    simp [hl, h, a]
  · refine ⟨0, fun s => ?_⟩
    apply runG_rt
    simp [hl, h]
theorem further_val (c : Int) (s : Sto) : ∃ l : List Int, l.length ≤ 1100 ∧ S_l_further [.int c, .int 60, .int 1100] s = .ok (.lst (l.map .int)) (s ++ [.gone]) := by
  have d11 : divOk 11 := divOk_small (by decide) (by decide)
  have loop : ∀ (n : Nat) (v1 : Option D) (w : Int), n ≤ 1100 → ∃ (l : List Int) (y3 y5 : Option D), l.length = n ∧ forD (.nm 5) L_l_further_0 (rngD 0 n) [some (.int c), v1, some (.int 1100), some (.int w), some (.ob s.length), none] (s ++ [.lst []]) = .nx [some (.int c), v1, some (.int 1100), y3, some (.ob s.length), y5] (s ++ [.lst (l.map .int)]) := fun n v1 w hn => by
    have lp := forR (p := .nm 5) (body := L_l_further_0) (lo := 0) (n := n) (δ := [some (.int c), v1, some (.int 1100), some (.int w), some (.ob s.length), none]) (s := s ++ [.lst []]) (fun j δ s' => ∃ (l : List Int) (x : Int) (y5 : Option D), l.length = j ∧ s' = s ++ [.lst (l.map D.int)] ∧ δ = [some (.int c), v1, some (.int 1100), some (.int x), some (.ob s.length), y5]) ⟨[], w, none, rfl, rfl, rfl⟩
      (fun j δ s' hj => by
        rintro ⟨l, x, y5, hl, rfl, rfl⟩
        have mo : IntMulOk x 48271 := mul_fitsR (by decide)
        have eL : (l ++ [x * 48271 % 2147483647]).map D.int = l.map D.int ++ [.int (x * 48271 % 2147483647)] := by simp
        have hLl : (l.map D.int).length = j := by simp [hl]
        refine ⟨_, v_nm _ _ _, _, s ++ [.lst ((l ++ [x * 48271 % 2147483647]).map .int)], ?_, l ++ [x * 48271 % 2147483647], x * 48271 % 2147483647, some (.int (0 + (j : Int))), by simp [hl], rfl, rfl⟩
        rw [eL]
        generalize l.map D.int = L at *
        have g : (s ++ [O.lst L])[s.length]? = some (.lst L) := get_last _ _
        have l1 := lsO_ob g
        have hs : L.length < sizeLine := by rw [sizeLine_eq]; omega
        simp [L_l_further_0, mo, l1, hs])
    obtain ⟨δ', s', lp, l, x, y5, hl, rfl, rfl⟩ := lp
    exact ⟨l, _, y5, hl, lp⟩
  have fin : ∀ (n : Nat) (v1 : Int), v1 = (n : Int) → n ≤ 1100 → (sIf (tV (eBin gEq (eBin gMod (eBin gDiv (eV 0) (eC (.int 11))) (eC (.int 16))) (eC (.int 7)))) (sSet 1 (eV 2)) (sIf (tV (eBin gNe (eBin gMod (eBin gDiv (eV 0) (eC (.int 11))) (eC (.int 8))) (eC (.int 5)))) (sSet 1 (eC (.int 0))) (sNx))) [some (.int c), some (.int 60), some (.int 1100), some (.int (c % 2147483646 + 1)), none, none] s = .nx [some (.int c), some (.int v1), some (.int 1100), some (.int (c % 2147483646 + 1)), none, none] s → ∃ l : List Int, l.length ≤ 1100 ∧ S_l_further [.int c, .int 60, .int 1100] s = .ok (.lst (l.map .int)) (s ++ [.gone]) := fun n v1 hv hn hi => by
    subst hv
    obtain ⟨l, y3, y5, hl, e⟩ := loop n (some (.int (n : Int))) (c % 2147483646 + 1) hn
    refine ⟨l, by omega, runG_rt ?_⟩
    have hr : rngOk (n : Int) := rngOk_nat (by omega)
    refine sq_nx (δ' := [some (.int c), some (.int 60), some (.int 1100), some (.int (c % 2147483646 + 1)), none, none]) (s' := s) (by simp) ?_
    refine sq_nx hi ?_
    generalize l.map D.int = L at *
    generalize c % 2147483646 + 1 = w at *
    refine sq_nx (δ' := [some (.int c), some (.int (n : Int)), some (.int 1100), some (.int w), some (.ob s.length), none]) (s' := s ++ [.lst []]) (by simp) ?_
    refine sq_nx (δ' := [some (.int c), some (.int (n : Int)), some (.int 1100), y3, some (.ob s.length), y5]) (s' := s ++ [.lst L]) (by
      rw [v_sFor]
      simp [hr, e]) ?_
    have fr : frzD (s ++ [O.lst L]) (.ob s.length) = (.lst L, s ++ [.gone]) := by
      rw [frz_ob (get_last _ _), List.set_append_right _ _ (Nat.le_refl _)]
      simp
    simp only [v_sFrz, List.getElem?_cons_succ, List.getElem?_cons_zero]
    rw [fr]
    simp
  by_cases h1 : c / 11 % 16 = 7
  · exact fin 1100 1100 rfl (by decide) (by
      generalize c % 2147483646 + 1 = w
      simp [d11, h1])
  · by_cases h2 : c / 11 % 8 = 5
    · exact fin 60 60 rfl (by decide) (by
        generalize c % 2147483646 + 1 = w
        simp [d11, h1, h2])
    · exact fin 0 0 rfl (by decide) (by
        generalize c % 2147483646 + 1 = w
        simp [d11, h1, h2])
theorem copy_int (k : Nat) (i : Int) (s : Sto) : S_l_copy (k + 1) [.int i] s = .ok (.int i) s := by
  show U_l_copy (S_l_copy k) [.int i] s = _
  apply runG_rt
  simp
theorem copy_ints (k : Nat) (vs : List Int) (hv : vs.length ≤ 2) (s : Sto) : S_l_copy (k + 2) [.lst (vs.map .int)] s = .ok (.lst (vs.map .int)) s := by
  have lc := lcD_mapL (p := .nm 1) (c := tTrue) (e := eCall (S_l_copy (k + 1)) (aCons (eV 1) aNil)) (δ := [some (.lst (vs.map .int)), none]) (s := s) D.int D.int vs fun i _ => ⟨_, v_nm _ _ _, rfl, by simp [copy_int]⟩
  have hl : vs.length ≤ sizeLine := small_line (by omega)
  show U_l_copy (S_l_copy (k + 1)) _ s = _
  apply runG_rt
  simp [wipeD, lc, hl]
theorem copy_pair (k : Nat) (m : Int) (vs : List Int) (hv : vs.length ≤ 2) (s : Sto) : S_l_copy (k + 3) [.tup [.int m, .lst (vs.map .int)]] s = .ok (.tup [.int m, .lst (vs.map .int)]) s := by
  have e1 := copy_int (k + 1) m s
  have e2 := copy_ints k vs hv s
  have s2 : 2 ≤ sizeLine := small_line (by omega)
  generalize D.lst (vs.map .int) = x at *
  show U_l_copy (S_l_copy (k + 2)) _ s = _
  apply runG_rt
  simp [wipeD, tyN, isTy, lcD, e1, e2, s2]
theorem copy_dd (k : Nat) (d : Dd) (hv : d.vs.length ≤ 2) (s : Sto) : S_l_copy (k + 4) [d.d] s = .ok d.d s := by
  cases d with
  | p m vs => exact copy_pair (k + 1) m vs hv s
  | b m vs w =>
    have e1 := copy_pair k m vs hv s
    have e2 := copy_ints (k + 1) [w] (by simp) s
    have s2 : 2 ≤ sizeLine := small_line (by omega)
    simp only [Dd.d, List.map_cons, List.map_nil] at e2 ⊢
    generalize D.lst (vs.map .int) = x at *
    show U_l_copy (S_l_copy (k + 3)) _ s = _
    apply runG_rt
    simp [wipeD, tyN, isTy, lcD, e1, e2, s2]
theorem copy_all (ds : List Dd) (hl : ds.length ≤ 1400) (hv : ∀ d ∈ ds, d.vs.length ≤ 2) (s : Sto) : S_l_copy 20 [dsD ds] s = .ok (dsD ds) s := by
  have lc := lcD_mapL (p := .nm 1) (c := tTrue) (e := eCall (S_l_copy 19) (aCons (eV 1) aNil)) (δ := [some (dsD ds), none]) (s := s) Dd.d Dd.d ds fun d hd => ⟨_, v_nm _ _ _, rfl, by
    have e := copy_dd 15 d (hv d hd) s
    generalize d.d = x at *
    simp [e]⟩
  have hs : ds.length ≤ sizeLine := small_line (by omega)
  have hs2 : (ds.map Dd.d).length ≤ sizeLine := by rw [List.length_map]; exact hs
  show U_l_copy (S_l_copy 19) _ s = _
  unfold dsD at lc ⊢
  generalize ds.map Dd.d = xs at *
  apply runG_rt
  simp [wipeD, lc, hs2]
theorem mark_d (d : Dd) (s : Sto) : S_l_mark [d.d] s = .ok (.int d.m) s := by
  cases d with
  | p m vs =>
    simp only [Dd.d, Dd.m]
    generalize D.lst (vs.map .int) = x
    apply runG_rt
    simp [tyN, isTy]
  | b m vs w =>
    simp only [Dd.d, Dd.m]
    generalize D.lst (vs.map .int) = x
    apply runG_rt
    simp [tyN, isTy]
theorem dd_eqk (d : Dd) : eqk 3 d.d := by
  have fl : ∀ vs : List Int, eqk 1 (.lst (vs.map .int)) := fun vs => eqk_lst fun x hx => by
    obtain ⟨i, _, rfl⟩ := List.mem_map.mp hx
    exact eqk_int 0 i
  cases d with
  | p m vs => exact eqk_up (eqk_tup (eqk_int 1 m) (fl vs)) (by decide)
  | b m vs w =>
    refine eqk_lst fun x hx => ?_
    simp only [List.mem_cons, List.not_mem_nil, or_false] at hx
    rcases hx with rfl | rfl
    · exact eqk_tup (eqk_int 1 m) (fl vs)
    · exact eqk_up (fl [w]) (by decide)
theorem ds_same (ds : List Dd) : gEq (dsD ds) (dsD ds) = some (.bl true) := by
  have h : eqk 4 (dsD ds) := eqk_lst fun x hx => by
    obtain ⟨d, _, rfl⟩ := List.mem_map.mp hx
    exact dd_eqk d
  unfold gEq
  rw [eqO_self h (by decide)]
  rfl
/-! places -/
def qm (bad : Int) (ds : List Dd) (k : Nat) : Bool := match ds[k]? with
  | some d => decide (d.m = bad)
  | none => false
def pls (bad : Int) (ds : List Dd) : List Nat := (List.range ds.length).filter (qm bad ds)
theorem pls_cons (bad : Int) (d : Dd) (ds : List Dd) : pls bad (d :: ds) = (if d.m = bad then [0] else []) ++ (pls bad ds).map (· + 1) := by
  unfold pls
  rw [List.length_cons, List.range_succ_eq_map, List.filter_cons, List.filter_map]
  have e : qm bad (d :: ds) ∘ Nat.succ = qm bad ds := by
    funext k
    simp [qm]
  have e0 : qm bad (d :: ds) 0 = decide (d.m = bad) := by simp [qm]
  rw [e, e0]
  by_cases h : d.m = bad
  · simp [h]
  · simp [h]
theorem fst_head {bad : Int} (hb : 0 ≤ bad) : ∀ ds : List Dd, (∀ d ∈ ds, 0 ≤ d.m) → fst (-1) bad ds = (pls bad ds).head?
  | [], _ => rfl
  | d :: ds, h => by
    have hd := h d (by simp)
    have ih := fst_head hb ds fun x hx => h x (by simp [hx])
    have f1 : fl (-1) d = 0 := by unfold fl; rw [if_neg (by omega)]
    rw [pls_cons]
    by_cases e : d.m = bad
    · have f2 : fl bad d = 1 := by unfold fl; rw [if_pos e]
      simp [fst, f1, f2, e]
    · have f2 : fl bad d = 0 := by unfold fl; rw [if_neg e]
      simp only [fst, f1, f2, if_true, if_neg e, List.nil_append]
      rw [ih, List.head?_map]
theorem lcD_filt {α : Type} {p : Pt} {c : T} {e : E} {δ : Sl} {s : Sto} (g : α → D) (q : α → Bool) : ∀ l : List α, (∀ a ∈ l, ∃ δ1, bindP p (g a) δ = some δ1 ∧ c δ1 s = .ok (q a) s ∧ e δ1 s = .ok (g a) s) → lcD p c e δ (l.map g) s = .ok ((l.filter q).map g) s
  | [], _ => rfl
  | x :: l, h => by
    obtain ⟨δ1, e1, e2, e3⟩ := h x (by simp)
    have ih := lcD_filt (p := p) (c := c) (e := e) (δ := δ) (s := s) g q l fun k hk => h k (by simp [hk])
    cases hq : q x
    · rw [hq] at e2
      simp only [List.map_cons, lcD, e1, e2, ih, List.filter_cons, hq]
      rfl
    · rw [hq] at e2
      simp only [List.map_cons, lcD, e1, e2, e3, ih, List.filter_cons, hq]
      rfl
def plI (bad : Int) (ds : List Dd) : List Int := (pls bad ds).map fun (k : Nat) => (k : Int)
theorem plI_eq (bad : Int) (ds : List Dd) : (pls bad ds).map (fun (k : Nat) => D.int ((0 : Int) + (k : Int))) = (plI bad ds).map D.int := by
  unfold plI
  rw [List.map_map]
  exact List.map_congr_left fun k _ => by rw [Int.zero_add]; rfl
theorem places_lc (bad : Int) (ds : List Dd) (hl : ds.length ≤ 1400) (i : Nat) (δ : Sl) (s : Sto) (hi : δ[i]? = some (some (dsD ds))) (h1 : δ[1]? = some (some (.int bad))) (h17 : 17 < δ.length) (hi17 : i < 17) :
    lcD (.nm 17) (tV (eBin gEq (eCall S_l_mark (aCons (eBin gIx (eV i) (eV 17)) (aNil))) (eV 1))) (eV 17) δ (rngD 0 ds.length) s = .ok ((plI bad ds).map D.int) s := by
  rw [← plI_eq]
  refine lcD_filt (fun k : Nat => D.int ((0 : Int) + (k : Int))) (qm bad ds) (List.range ds.length) fun k hk => ⟨_, v_nm _ _ _, ?_, ?_⟩
  · have hk := List.mem_range.mp hk
    have g17 : (δ.set 17 (some (D.int ((0 : Int) + (k : Int)))))[17]? = some (some (.int ((0 : Int) + (k : Int)))) := List.getElem?_set_self h17
    have gi : (δ.set 17 (some (D.int ((0 : Int) + (k : Int)))))[i]? = some (some (dsD ds)) := by rw [List.getElem?_set_ne (by omega)]; exact hi
    have g1 : (δ.set 17 (some (D.int ((0 : Int) + (k : Int)))))[1]? = some (some (.int bad)) := by rw [List.getElem?_set_ne (by omega)]; exact h1
    have a : gIx (dsD ds) (.int ((0 : Int) + (k : Int))) = some (ds[k]).d := by
      show atI (ds.map Dd.d) _ = _
      rw [Int.zero_add, atI_ofNat _ (by simpa using hk), List.getElem_map]
    have m := mark_d ds[k] s
    have q : qm bad ds k = decide ((ds[k]).m = bad) := by simp [qm, hk]
    have rd := rs_dd s ds[k]
    have rdd : rsv s (dsD ds) = dsD ds := rfl
    rw [q]
    generalize (ds[k]).m = mm at *
    generalize (ds[k]).d = x at *
    generalize dsD ds = dd at *
    generalize δ.set 17 (some (D.int ((0 : Int) + (k : Int)))) = δ2 at *
    generalize (0 : Int) + (k : Int) = kk at *
    simp only [v_tV, v_eBin, v_eCall, v_aCons, v_aNil, v_eV, g17, gi, g1, v_bind_ok, rdd, r_int, a, v_ofO_some, m, v_eqI]
  · have g17 : (δ.set 17 (some (D.int ((0 : Int) + (k : Int)))))[17]? = some (some (.int ((0 : Int) + (k : Int)))) := List.getElem?_set_self h17
    simp only [v_eV, g17]
end Law

/-! V81g: k81's law. -/
namespace Law
open PySem L2 Gs
theorem plI_len (bad : Int) (ds : List Dd) : (plI bad ds).length ≤ ds.length := by
  unfold plI pls
  rw [List.length_map]
  exact Nat.le_trans (List.length_filter_le _ _) (by simp)
theorem none_iff {bad : Int} (hb : 0 ≤ bad) {ds : List Dd} (h : ∀ d ∈ ds, 0 ≤ d.m) : (fst (-1) bad ds).isNone = decide (plI bad ds = []) := by
  rw [fst_head hb ds h]
  unfold plI
  cases pls bad ds <;> simp
/-- what the judge of both and the other judge tell of some deeds -/
theorem turn_val {bad : Int} (hb : 0 ≤ bad) (ds : List Dd) (hl : ds.length ≤ 1400) (hv : ∀ d ∈ ds, d.vs.length ≤ 2) (hm : ∀ d ∈ ds, 0 ≤ d.m) (s : Sto) (hn : Ns s) {x0 x2 x3 x4 x5 x6 x7 x8 x9 x10 x14 x15 : Option D} :
    ∃ s' y14 y15, Ns s' ∧ L_law_0 [x0, some (.int bad), x2, x3, x4, x5, x6, x7, x8, x9, x10, some (cJ (-1) bad), some cJS, some (dsD ds), x14, x15, none, none] s = .nx [x0, some (.int bad), x2, x3, x4, x5, x6, x7, x8, x9, x10, some (cJ (-1) bad), some cJS, some (dsD ds), y14, y15, none, none] s' := by
  obtain ⟨s1, n1, q1⟩ := ask_jdg (-1) bad ds hl hv s hn (i := 11) (as := aCons (eV 13) (aNil)) (δ := [x0, some (.int bad), x2, x3, x4, x5, x6, x7, x8, x9, x10, some (cJ (-1) bad), some cJS, some (dsD ds), x14, x15, none, none]) rfl (by
    generalize dsD ds = dd
    generalize cJ (-1) bad = c1
    generalize cJS = c2
    simp)
  have ni := none_iff hb hm
  obtain ⟨b1, hb1⟩ : ∃ b1, (fst (-1) bad ds).isNone = b1 := ⟨_, rfl⟩
  rw [hb1] at q1 ni
  obtain ⟨s2, n2, q2⟩ := ask_jdgS ds hv s1 n1 (i := 12) (as := aCons (eV 13) (aNil)) (δ := [x0, some (.int bad), x2, x3, x4, x5, x6, x7, x8, x9, x10, some (cJ (-1) bad), some cJS, some (dsD ds), some (.bl b1), some (.bl b1), none, none]) rfl (by
    generalize dsD ds = dd
    generalize cJ (-1) bad = c1
    generalize cJS = c2
    simp)
  have lc := places_lc bad ds hl 13 [x0, some (.int bad), x2, x3, x4, x5, x6, x7, x8, x9, x10, some (cJ (-1) bad), some cJS, some (dsD ds), some (.bl b1), x15, none, none] s1 rfl rfl (by simp) (by decide)
  have hr : rngOk (ds.length : Int) := rngOk_nat (by omega)
  have pl := plI_len bad ds
  have psl : (plI bad ds).length ≤ sizeLine := small_line (by omega)
  have gl : gLen [dsD ds] = some (.int (ds.length : Int)) := by
    have : (ds.map Dd.d).length ≤ sizeLine := by rw [List.length_map]; exact small_line (by omega)
    unfold dsD
    simp [show ds.length ≤ sizeLine from small_line (by omega)]
  have rdd : ∀ s, rsv s (dsD ds) = dsD ds := fun _ => rfl
  refine ⟨s2, some (.bl b1), some (.bl b1), n2, ?_⟩
  unfold L_law_0
  refine sq_nx (δ' := [x0, some (.int bad), x2, x3, x4, x5, x6, x7, x8, x9, x10, some (cJ (-1) bad), some cJS, some (dsD ds), some (.bl b1), x15, none, none]) (s' := s1) (by
    rw [v_sSet]
    exact (congrArg (fun r => sBind r _ _) q1).trans rfl) ?_
  refine sq_nx (δ' := [x0, some (.int bad), x2, x3, x4, x5, x6, x7, x8, x9, x10, some (cJ (-1) bad), some cJS, some (dsD ds), some (.bl b1), some (.bl b1), none, none]) (s' := s1) (by
    generalize dsD ds = dd at *
    generalize cJ (-1) bad = c1 at *
    generalize cJS = c2 at *
    have ni' := ni.symm
    clear ni
    simp [rdd, gl, hr, wipeD, lc, psl, ni']) ?_
  have gnb : gNotB (.bl true) (.bl true) = some (.bl false) := rfl
  generalize hcc : eClo TJ 12 (aCons (eV 13) aNil) = EC at *
  generalize dsD ds = dd at *
  generalize cJ (-1) bad = c1 at *
  generalize cJS = c2 at *
  simp [q2, gnb, tyN, isTy]
theorem law_true (ns : List Int) (hn : ns.length ≤ 63) : ∃ s', S_law [.lst (ns.map D.int)] (tabSt tabsL) = .ok (.bl true) s' := by
  obtain ⟨s0, hs0⟩ : ∃ s0, tabSt tabsL = s0 := ⟨_, rfl⟩
  have h0 : s0[0]? = some (.tab "tab_l_still" nm_l_still) := by rw [← hs0]; rfl
  have h1 : s0[1]? = some (.tab "tab_l_thing" nm_l_thing) := by rw [← hs0]; rfl
  have h2 : s0[2]? = some (.tab "tab_deed_judge" nm_deed_judge) := by rw [← hs0]; rfl
  have n0 : Ns s0 := by rw [← hs0]; rfl
  rw [hs0]
  obtain ⟨c0, v0⟩ := cellv ns hn 0
  obtain ⟨c1, v1⟩ := cellv ns hn 1
  obtain ⟨more, hm, mv⟩ := further_val c1 s0
  obtain ⟨bad, hbd⟩ : ∃ bad, c0 % 10 = bad := ⟨_, rfl⟩
  have hb : 0 ≤ bad := by omega
  obtain ⟨w, hwd⟩ : ∃ w, c1 % 40 = w := ⟨_, rfl⟩
  obtain ⟨sa, hsa⟩ : ∃ sa, s0 ++ [O.gone] = sa := ⟨_, rfl⟩
  have na : Ns sa := by rw [← hsa]; exact n0.one rfl
  have ga : ∀ i o, s0[i]? = some o → sa[i]? = some o := fun i o e => by rw [← hsa, List.getElem?_append_left (List.getElem?_eq_some_iff.mp e).1]; exact e
  rw [hsa] at mv
  obtain ⟨cs, hcs⟩ : ∃ cs, cutL (cutL ns (some 2) none ++ more) none (some 1200) = cs := ⟨_, rfl⟩
  have hcl : cs.length ≤ 1200 := by
    rw [← hcs]
    have := cutL_hi (cutL ns (some 2) none ++ more) 1200
    rw [show ((1200 : Nat) : Int) = 1200 from rfl] at this
    rw [this, List.length_take]
    omega
  obtain ⟨ds, hds⟩ : ∃ ds, cs.map dof = ds := ⟨_, rfl⟩
  have hdl : ds.length ≤ 1200 := by rw [← hds, List.length_map]; exact hcl
  have all : ∀ d ∈ ds, d.vs.length ≤ 2 ∧ 0 ≤ d.m := fun d hd => by
    rw [← hds] at hd
    obtain ⟨c, _, rfl⟩ := List.mem_map.mp hd
    exact dof_ok c
  have hv : ∀ d ∈ ds, d.vs.length ≤ 2 := fun d hd => (all d hd).1
  have hmm : ∀ d ∈ ds, 0 ≤ d.m := fun d hd => (all d hd).2
  have dsd : ds.map Dd.d = cs.map fun c => (dof c).d := by rw [← hds, List.map_map]; rfl
  have sl1 : gSl (.lst (ns.map D.int)) (some 2) none = some (.lst ((cutL ns (some 2) none).map .int)) := by
    rw [v_gslL, cutD_ints]
  have ad : gAdd (.lst ((cutL ns (some 2) none).map D.int)) (.lst (more.map .int)) = some (.lst ((cutL ns (some 2) none ++ more).map .int)) := by
    have h1 := cutL_len ns (some 2) none
    rw [v_addL, if_pos (by simp only [List.length_map]; exact small_line (by omega)), List.map_append]
  have sl2 : gSl (.lst ((cutL ns (some 2) none ++ more).map D.int)) none (some 1200) = some (.lst (cs.map .int)) := by
    rw [v_gslL, cutD_ints, hcs]
  have lc : ∀ (δ : Sl), 16 < δ.length → lcD (.nm 16) tTrue (eCall S_l_deed (aCons (eV 16) (aNil))) δ (cs.map D.int) sa = .ok (ds.map Dd.d) sa := fun δ hδ => by
    have h := lcD_mapL (p := .nm 16) (c := tTrue) (e := eCall S_l_deed (aCons (eV 16) (aNil))) (δ := δ) (s := sa) D.int (fun c => (dof c).d) cs fun c hc => ⟨_, v_nm _ _ _, rfl, by
      have g : (δ.set 16 (some (D.int c)))[16]? = some (some (.int c)) := List.getElem?_set_self hδ
      have dv := deed_val c sa
      generalize (dof c).d = x at *
      simp [hδ, dv]⟩
    rw [h, dsd]
  have hdl2 : (ds.map Dd.d).length ≤ sizeLine := by rw [List.length_map]; exact small_line (by omega)
  have cp := copy_all ds (by omega) hv sa
  have pc := fun i δ s a b c d => places_lc bad ds (by omega) i δ s a b c d
  have m1 := thing_made (-1) sa (ga 1 _ h1)
  have m2 := thing_made bad sa (ga 1 _ h1)
  have m3 := still_made sa (ga 0 _ h0)
  obtain ⟨s1, n1, old1, le1, av⟩ := apart_val (-1) bad ds (by omega) hv sa na
  have lsa : 2 < sa.length := (List.getElem?_eq_some_iff.mp (ga 2 _ h2)).1
  have t2 : s1[2]? = some (.tab "tab_deed_judge" nm_deed_judge) := by rw [old1 2 lsa]; exact ga 2 _ h2
  have j1 := judge_made cBeg (cDon (-1)) cBeg (cDon bad) s1 t2
  have j2 := judge_made cBegS cDonS cBegS cDonS s1 t2
  have fh := fst_head hb ds hmm
  have psl := plI_len bad ds
  have pll : (plI bad ds).length ≤ sizeLine := small_line (by omega)
  have gl : gLen [dsD ds] = some (.int (ds.length : Int)) := by
    unfold dsD
    simp [show ds.length ≤ sizeLine from small_line (by omega)]
  have hr : rngOk (ds.length : Int) := rngOk_nat (by omega)
  have rdd : ∀ s, rsv s (dsD ds) = dsD ds := fun _ => rfl
  have cut : ∀ lo hi, gSl (dsD ds) lo hi = some (dsD (cutL ds lo hi)) := fun lo hi => by
    unfold dsD
    rw [v_gslL, cutD_map]
  have cutm : ∀ lo hi, (∀ d ∈ cutL ds lo hi, d.vs.length ≤ 2 ∧ 0 ≤ d.m) ∧ (cutL ds lo hi).length ≤ 1400 := fun lo hi => ⟨fun d hd => all d (by
    unfold cutL at hd
    exact List.mem_of_mem_drop (List.mem_of_mem_take hd)), by
    have := cutL_len ds lo hi
    omega⟩
  obtain ⟨e1, he1⟩ : ∃ e1, cutL ds none (some w) = e1 := ⟨_, rfl⟩
  obtain ⟨e2, he2⟩ : ∃ e2, cutL ds (some 1) (some (w + 1)) = e2 := ⟨_, rfl⟩
  have cm1 := cutm none (some w)
  have cm2 := cutm (some 1) (some (w + 1))
  have cu1 := cut none (some w)
  have cu2 := cut (some 1) (some (w + 1))
  rw [he1] at cm1 cu1
  rw [he2] at cm2 cu2
  have tv := fun es s hn x14 x15 (hl : es.length ≤ 1400) (ok : ∀ d ∈ es, (Dd.vs d).length ≤ 2 ∧ 0 ≤ Dd.m d) => turn_val hb es hl (fun d hd => (ok d hd).1) (fun d hd => (ok d hd).2) s hn
    (x0 := some (.lst (ns.map D.int))) (x2 := some (.int w)) (x3 := some (.lst (more.map .int))) (x4 := some (dsD ds)) (x5 := some (dsD ds)) (x6 := some (.lst ((plI bad ds).map .int))) (x7 := some (.tup [cBeg, cDon (-1)])) (x8 := some (.tup [cBeg, cDon bad])) (x9 := some (.tup [cBegS, cDonS])) (x10 := some (oD (fst (-1) bad ds))) (x14 := x14) (x15 := x15)
  obtain ⟨s2, y2, z2, n2, f2⟩ := tv ds s1 n1 none none (by omega) all
  obtain ⟨s3, y3, z3, n3, f3⟩ := tv e1 s2 n2 y2 z2 cm1.2 cm1.1
  obtain ⟨s4, y4, z4, n4, f4⟩ := tv e2 s3 n3 y3 z3 cm2.2 cm2.1
  obtain ⟨s5, y5, z5, n5, f5⟩ := tv ds s4 n4 y4 z4 (by omega) all
  unfold cJ cJS at f2 f3 f4 f5
  have same := ds_same ds
  have lcA := lc [some (.lst (ns.map D.int)), some (.int bad), some (.int w), some (.lst (more.map .int)), none, none, none, none, none, none, none, none, none, none, none, none, none, none] (by simp)
  have pcA := pc 5 [some (.lst (ns.map D.int)), some (.int bad), some (.int w), some (.lst (more.map .int)), some (dsD ds), some (dsD ds), none, none, none, none, none, none, none, none, none, none, none, none] sa rfl rfl (by simp) (by decide)
  have r1 : ∀ s, rsv s (.lst (ns.map D.int)) = .lst (ns.map .int) := fun _ => rfl
  have r2 : ∀ s, rsv s (.lst ((cutL ns (some 2) none).map D.int)) = .lst ((cutL ns (some 2) none).map .int) := fun _ => rfl
  have r3 : ∀ s, rsv s (.lst ((cutL ns (some 2) none ++ more).map D.int)) = .lst ((cutL ns (some 2) none ++ more).map .int) := fun _ => rfl
  have r4 : ∀ s, rsv s (.lst (more.map D.int)) = .lst (more.map .int) := fun _ => rfl
  have sq : seqOf (.lst (cs.map D.int)) = some (cs.map .int) := rfl
  have vv0 : S_l_cell_at [.lst (ns.map D.int), .int 0] s0 = .ok (.int c0) s0 := v0 s0
  have vv1 : S_l_cell_at [.lst (ns.map D.int), .int 1] s0 = .ok (.int c1) s0 := v1 s0
  have chk : sIf (tV (eBin gEq (eV 6) (eFz (fLst (aNil))))) (sIf (tV (eBin gNotN (eV 10) (eC .non))) (sRet (eC (.bl false))) (sNx)) (sIf (tOrr (tNt (tV (eCall S_l_whole (aCons (eV 10) (aNil))))) (tV (eBin gNe (eV 10) (eBin gIx (eV 6) (eC (.int 0)))))) (sRet (eC (.bl false))) (sNx))
      [some (.lst (ns.map D.int)), some (.int bad), some (.int w), some (.lst (more.map .int)), some (dsD ds), some (dsD ds), some (.lst ((plI bad ds).map .int)), some (.tup [cBeg, cDon (-1)]), some (.tup [cBeg, cDon bad]), some (.tup [cBegS, cDonS]), some (oD (fst (-1) bad ds)), none, none, none, none, none, none, none] s1
      = .nx [some (.lst (ns.map D.int)), some (.int bad), some (.int w), some (.lst (more.map .int)), some (dsD ds), some (dsD ds), some (.lst ((plI bad ds).map .int)), some (.tup [cBeg, cDon (-1)]), some (.tup [cBeg, cDon bad]), some (.tup [cBegS, cDonS]), some (oD (fst (-1) bad ds)), none, none, none, none, none, none, none] s1 := by
    have wi : ∀ i : Int, S_l_whole [.int i] s1 = .ok (.bl true) s1 := fun i => by
      apply runG_rt
      simp [tyN, isTy]
    have l0 : (0 : Nat) ≤ sizeLine := Nat.zero_le _
    generalize D.lst (ns.map D.int) = a0
    generalize D.lst (more.map D.int) = a1
    generalize dsD ds = a2
    generalize D.tup [cBeg, cDon (-1)] = a3
    generalize D.tup [cBeg, cDon bad] = a4
    generalize D.tup [cBegS, cDonS] = a5
    rw [fh]
    unfold plI
    cases pls bad ds with
    | nil => simp [oD, gNotN]
    | cons m rest =>
      have at0 : gIx (.lst (((m :: rest).map fun (k : Nat) => (k : Int)).map D.int)) (.int 0) = some (.int (m : Int)) := by simp
      have ne0 : gEq (.lst (((m :: rest).map fun (k : Nat) => (k : Int)).map D.int)) (.lst []) = some (.bl false) := by rw [v_eqL0]; simp
      have ro : ∀ s, rsv s (.lst (((m :: rest).map fun (k : Nat) => (k : Int)).map D.int)) = .lst (((m :: rest).map fun (k : Nat) => (k : Int)).map D.int) := fun _ => rfl
      have od : oD (m :: rest).head? = .int (m : Int) := rfl
      rw [od]
      generalize D.lst (((m :: rest).map fun (k : Nat) => (k : Int)).map D.int) = pp at *
      generalize (m : Int) = mm at *
      simp [ro, ne0, at0, wi]
  have cb0 : ∀ a : D, gIx (.tup [a, cDon (-1)]) (.int 0) = some a := fun a => by simp
  generalize D.lst (ns.map D.int) = nsd at *
  generalize D.lst ((cutL ns (some 2) none).map D.int) = w1 at *
  generalize D.lst ((cutL ns (some 2) none ++ more).map D.int) = w2 at *
  generalize D.lst (more.map D.int) = w3 at *
  generalize D.lst (cs.map D.int) = w4 at *
  generalize cs.map D.int = w5 at *
  have dsl : D.lst (ds.map Dd.d) = dsD ds := rfl
  refine ⟨s5, runG_rt ?_⟩
  refine sq_nx (δ' := [some nsd, some (.int bad), none, none, none, none, none, none, none, none, none, none, none, none, none, none, none, none]) (s' := s0) (by simp [vv0, hbd]) ?_
  refine sq_nx (δ' := [some nsd, some (.int bad), some (.int w), none, none, none, none, none, none, none, none, none, none, none, none, none, none, none]) (s' := s0) (by simp [vv1, hwd]) ?_
  refine sq_nx (δ' := [some nsd, some (.int bad), some (.int w), some w3, none, none, none, none, none, none, none, none, none, none, none, none, none, none]) (s' := sa) (by simp [vv1, mv]) ?_
  refine sq_nx (δ' := [some nsd, some (.int bad), some (.int w), some w3, some (dsD ds), none, none, none, none, none, none, none, none, none, none, none, none, none]) (s' := sa) (by
    rw [← dsl]
    simp only [v_sSet, v_eFz, v_fLc, v_iSeq, v_eSl, v_eBin, v_eV, v_eC, v_oSome, v_oNone, List.getElem?_cons_succ, List.getElem?_cons_zero, v_bind_ok, r1, sl1, v_ofO_some, r2, r4, ad, r3, sl2, sq, wipeD, List.foldl_cons, List.foldl_nil, List.set_cons_succ, List.set_cons_zero, lcA, hdl2, if_true, v_sBind_ok]) ?_
  generalize hX : dsD ds = X at *
  refine sq_nx (δ' := [some nsd, some (.int bad), some (.int w), some w3, some X, some X, none, none, none, none, none, none, none, none, none, none, none, none]) (s' := sa) (by simp [cp, rdd]) ?_
  refine sq_nx (δ' := [some nsd, some (.int bad), some (.int w), some w3, some X, some X, some (.lst ((plI bad ds).map .int)), none, none, none, none, none, none, none, none, none, none, none]) (s' := sa) (by simp [gl, rdd, hr, wipeD, pcA, pll]) ?_
  generalize (plI bad ds).map D.int = PL at *
  generalize hO : oD (fst (-1) bad ds) = O at *
  generalize cBeg = cb at *
  generalize cDon (-1) = cd1 at *
  generalize cDon bad = cd2 at *
  generalize cBegS = cbs at *
  generalize cDonS = cds at *
  refine sq_nx (δ' := [some nsd, some (.int bad), some (.int w), some w3, some X, some X, some (.lst PL), some (.tup [cb, cd1]), none, none, none, none, none, none, none, none, none, none]) (s' := sa) (by simp [m1]) ?_
  refine sq_nx (δ' := [some nsd, some (.int bad), some (.int w), some w3, some X, some X, some (.lst PL), some (.tup [cb, cd1]), some (.tup [cb, cd2]), none, none, none, none, none, none, none, none, none]) (s' := sa) (by simp [m2]) ?_
  refine sq_nx (δ' := [some nsd, some (.int bad), some (.int w), some w3, some X, some X, some (.lst PL), some (.tup [cb, cd1]), some (.tup [cb, cd2]), some (.tup [cbs, cds]), none, none, none, none, none, none, none, none]) (s' := sa) (by simp [m3]) ?_
  refine sq_nx (δ' := [some nsd, some (.int bad), some (.int w), some w3, some X, some X, some (.lst PL), some (.tup [cb, cd1]), some (.tup [cb, cd2]), some (.tup [cbs, cds]), some O, none, none, none, none, none, none, none]) (s' := s1) (by simp [av]) ?_
  refine sq_nx chk ?_
  refine sq_nx (δ' := [some nsd, some (.int bad), some (.int w), some w3, some X, some X, some (.lst PL), some (.tup [cb, cd1]), some (.tup [cb, cd2]), some (.tup [cbs, cds]), some O, some (.clo K_deed_judge__judge [cb, cd1, cb, cd2]), none, none, none, none, none, none]) (s' := s1) (by simp [j1]) ?_
  refine sq_nx (δ' := [some nsd, some (.int bad), some (.int w), some w3, some X, some X, some (.lst PL), some (.tup [cb, cd1]), some (.tup [cb, cd2]), some (.tup [cbs, cds]), some O, some (.clo K_deed_judge__judge [cb, cd1, cb, cd2]), some (.clo K_deed_judge__judge [cbs, cds, cbs, cds]), none, none, none, none, none]) (s' := s1) (by simp [j2]) ?_
  generalize D.clo K_deed_judge__judge [cb, cd1, cb, cd2] = jd at *
  generalize D.clo K_deed_judge__judge [cbs, cds, cbs, cds] = js at *
  have l4 : 4 ≤ sizeLine := small_line (by omega)
  refine sq_nx (δ' := [some nsd, some (.int bad), some (.int w), some w3, some X, some X, some (.lst PL), some (.tup [cb, cd1]), some (.tup [cb, cd2]), some (.tup [cbs, cds]), some O, some jd, some js, some X, y5, z5, none, none]) (s' := s5) (by
    rw [v_sFor]
    generalize dsD e1 = E1 at *
    generalize dsD e2 = E2 at *
    simp [rdd, cu1, cu2, l4, forD, f2, f3, f4, f5]) ?_
  simp [rdd, same]
end Law

open PySem PySem.W
set_option maxRecDepth 100000 in
set_option maxHeartbeats 0 in
theorem PySem.Challenge.cw_countgen_k81_deeds_of_their_own_holds : PySem.Challenge.rw_countgen_k81_deeds_of_their_own.Holds := by
  w_on; o_law; k_head; (case hw => w_witness2)
  k_fill
  refine Gs.walk_tabs (l := PySem.Challenge.rw_countgen_k81_deeds_of_their_own) (n := 63) (k := 24) (x := "_law_script") (CX := fun w => L2.CX (PySem.W.OpenLaw.prog PySem.Challenge.rw_countgen_k81_deeds_of_their_own) w) (S := Law.S_law) (T := Law.tabsL) (names := ["_law_still", "_law_thing", "deed_judge"]) rfl (by decide) rfl ⟨rfl, by decide, by decide⟩ ?hrec (fun w h Y => PySem.W.km_in_of Y) ?F
    (fun ns hl hb => Law.law_true ns hl) (fun _ _ _ _ _ h => Gs.law_cx h)
  case hrec => decide +kernel
  case F =>
    intro w mg fa h KX G hmg
    refine' Law.all_mk KX G hmg ?c0 ?c1 ?c2 ?c3 ?c4 ?c5 ?c6 ?c7 ?c8 ?c9 ?c10 ?c11 ?c12 ?c13 ?c14 ?c15 ?c16 ?c17 ?c18 ?c19 ?c20 ?c21 ?c22 ?c23 ?c24 ?c25 ?c26 ?c27 ?c28 ?c29 ?c30 ?c31 ?c32 ?c33 ?c34 ?c35 ?c36 ?c37 ?c38 ?c39 ?c40 ?c41 ?c42 ?c43 ?c44 ?c45 ?c46 ?c47 ?c48 ?c49 ?c50 ?c51 ?c52 ?c53 ?c54 ?c55 ?c56 ?c57 ?c58 ?c59 ?c60 ?c61 ?c62 ?c63 ?c64 ?c65 ?c66 ?c67 ?c68 ?c69 ?c70 ?c71 ?c72 ?c73 ?c74 ?c75 ?c76 ?c77 ?c78 ?c79 ?c80 ?c81 ?c82 ?c83 ?c84 ?c85
    (case c0 => k_is); (case c4 => k_is); (case c8 => k_is); (case c12 => k_is); (case c16 => k_is); (case c20 => k_is); (case c27 => k_is); (case c34 => k_is); (case c38 => k_is); (case c42 => k_is); (case c46 => k_is); (case c50 => k_is); (case c54 => k_is); (case c58 => k_is); (case c62 => k_is); (case c69 => k_is); (case c1 => k_is); (case c5 => k_is); (case c9 => k_is); (case c13 => k_is); (case c17 => k_is); (case c21 => k_is); (case c28 => k_is); (case c35 => k_is); (case c39 => k_is); (case c43 => k_is); (case c47 => k_is); (case c51 => k_is); (case c55 => k_is); (case c59 => k_is); (case c63 => k_is); (case c70 => k_is); (case c24 => k_is); (case c31 => k_is); (case c66 => k_is); (case c25 => exact rfl); (case c32 => exact rfl); (case c67 => exact rfl); (case c2 => k_is); (case c3 => k_is); (case c6 => k_is); (case c7 => k_is); (case c10 => k_is); (case c11 => k_is); (case c14 => k_is); (case c15 => k_is); (case c18 => k_is); (case c19 => k_is); (case c22 => k_is); (case c23 => k_is); (case c26 => first | k_is | rfl | decide +kernel); (case c29 => k_is); (case c30 => k_is); (case c33 => first | k_is | rfl | decide +kernel); (case c36 => k_is); (case c37 => k_is); (case c40 => k_is); (case c41 => k_is); (case c44 => k_is); (case c45 => k_is); (case c48 => k_is); (case c49 => k_is); (case c52 => k_is); (case c53 => k_is); (case c56 => k_is); (case c57 => k_is); (case c60 => k_is); (case c61 => k_is); (case c64 => k_is); (case c65 => k_is); (case c68 => first | k_is | rfl | decide +kernel); (case c71 => k_is); (case c72 => k_is); (case c73 => k_is); (case c74 => k_is); (case c75 => k_is); (case c76 => k_is); (case c77 => k_is); (case c78 => k_is); (case c79 => k_is); (case c80 => k_is); (case c81 => k_is); (case c82 => k_is); (case c83 => k_is); (case c84 => k_is); (case c85 => decide)
