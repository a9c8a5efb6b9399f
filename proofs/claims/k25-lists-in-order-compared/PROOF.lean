import PyProof.Rows.All
import HandS.ForMost
import HandS.ForExc
import HandS.WideBits
import HandS.Wide
import HandS.Nested
import HandS.NestedK
import HandS.TupAny
import HandS.Conv
import PyProof.ListStr
import HandS.IsInst
import HandS.Style
import HandS.RevRange
import HandS.Codes
import HandS.Zip
import HandS.ExcValue
import HandS.HotCalls
import HandS.ExcIs
import HandS.Iter
import HandS.Dict
import HandS.ExcInit
import HandS.ExcField
import KE.KExcIs
import HandS.Strs
import HandS.Zip0
import KE.GoesMore
import HandS.TupSets
import PyProof.FactsAll.set_2
import PyProof.Rows.SetFrom
import PyProof.FactsAll.subtypes_5
import HandS.SetKeys
import HandS.SortRule
import HandS.Deep
import KE.GoesZip
import PySem.Challenge.RW_countgen_k25_lists_in_order_compared
set_option Elab.async false
set_option linter.all false
set_option maxRecDepth 100000
set_option autoImplicit false
/-! G1: data and a store of things that change; what stands for them in a heap; a step; a frame. -/
namespace Gs
open PySem L2

/-- the words of a def within a def: the def, its name, its long name, what it captures -/
structure Clo where
  st : Stmt
  name : Str
  qual : Str
  fr : List Str
inductive D where
  | non | bl (b : Bool) | int (i : Int) | str (x : Str) | tup (xs : List D) | lst (xs : List D) | dct (ks : List Key) (ds : List D)
  | ob (i : Nat) | fn (s : String) | ev (c : String) (ks : List Str) (ds : List D) | clo (k : Clo) (ds : List D)
instance : Inhabited D := ⟨.non⟩
/-- tab: the table of the code objects of the defs within a def; fK: a dict that is read alone from here on -/
inductive O where
  | lst (xs : List D) | dK (kvs : List (Key × D)) | dT (kvs : List (List Key × D)) | ins (c : String) (fs : List (Str × D)) | tab (x : String) (nm : Nat → Nat → Str) | fK (kvs : List (Key × D)) | gone
instance : Inhabited O := ⟨.gone⟩
abbrev Sto := List O
def O.live : O → Bool
  | .gone => false
  | .fK _ => false
  | _ => true
/-- an exception's object, of the class cls, with the own dict d -/
def EvO (cls : Value) (d : Option Addr) (a : Addr) : HO := .ext fun h => ∃ (oe : Obj) (vs : Array Value), h.get? a = some oe ∧ Zc cls d oe ∧ oe.data = .fields vs

/-- a cell that holds v -/
def CellO (c : Addr) (v : V) : HO := .ext fun h => ∃ u, RelV v u ∧ h.IsCell c (some u)
/-- G without these -/
def minus (G : Hp) (as : List Addr) : Hp := fun b => if b ∈ as then none else G b
/-- the cells of what a def within a def captures -/
structure CellsG (G : Hp) (cl : List (Str × Addr)) (fr : List Str) (vs : List V) : Prop where
  len : vs.length = fr.length
  inj : ∀ x y c, cl.lookup x = some c → cl.lookup y = some c → x = y
  all : ∀ y c, cl.lookup y = some c → y ∈ fr
  has : ∀ (i : Nat) (y : Str), fr[i]? = some y → ∃ c v, cl.lookup y = some c ∧ vs[i]? = some v ∧ ∃ o, G c = some (.frz o (CellO c v))
abbrev cads (cl : List (Str × Addr)) (fr : List Str) : List Addr := fr.filterMap fun y => cl.lookup y
mutual
inductive Rep (K : PySem.W.Frag) (ct : String → Addr) : Hp → (Nat → Option Addr) → D → V → Prop
  | non {G : Hp} {m : Nat → Option Addr} : Rep K ct G m .non .non
  | bl {G : Hp} {m : Nat → Option Addr} (b : Bool) : Rep K ct G m (.bl b) (.bl b)
  | int {G : Hp} {m : Nat → Option Addr} (i : Int) : Rep K ct G m (.int i) (.int i)
  | str {G : Hp} {m : Nat → Option Addr} (x : Str) : Rep K ct G m (.str x) (.str x)
  | fn {G : Hp} {m : Nat → Option Addr} (s : String) : Rep K ct G m (.fn s) (.ref (ct s))
  | ob {G : Hp} {m : Nat → Option Addr} {i : Nat} {a : Addr} : m i = some a → Rep K ct G m (.ob i) (.ref a)
  | clo {G : Hp} {m : Nat → Option Addr} {f : Addr} {F : NdefX.NF} {k : Clo} {vs : List V} {ds : List D} : G f = some (NdefX.FnO f F) → G F.c = some (LamX.CodeO F.c F.qual) → F = NdefX.NF.of k.st k.name k.qual F.cl F.c → CellsG G F.cl k.fr vs → RepL K ct (minus G (cads F.cl k.fr)) m ds vs → Rep K ct G m (.clo k ds) (.ref f)
  | tup {G : Hp} {m : Nat → Option Addr} {a : Addr} {vs : List V} {ds : List D} : SqT K G a vs → RepL K ct G m ds vs → Rep K ct G m (.tup ds) (.ref a)
  | lst {G : Hp} {m : Nat → Option Addr} {a : Addr} {vs : List V} {ds : List D} : SqL K G a vs → RepL K ct G m ds vs → Rep K ct G m (.lst ds) (.ref a)
  | dct {G : Hp} {m : Nat → Option Addr} {a : Addr} {vs : List V} {ks : List Key} {ds : List D} : G a = some (.dK (ks.zip vs)) → ks.length = ds.length → RepL K ct G m ds vs → Rep K ct G m (.dct ks ds) (.ref a)
  | ev0 {G : Hp} {m : Nat → Option Addr} {a : Addr} {c : String} : G a = some (EvO (.ref (ct c)) none a) → Rep K ct G m (.ev c [] []) (.ref a)
  | ev {G : Hp} {m : Nat → Option Addr} {a d : Addr} {vs : List V} {c : String} {ks : List Str} {ds : List D} : ks ≠ [] → G a = some (EvO (.ref (ct c)) (some d) a) → G d = some (.xd (ks.zip vs)) → ks.length = ds.length → RepL K ct G m ds vs → Rep K ct G m (.ev c ks ds) (.ref a)
inductive RepL (K : PySem.W.Frag) (ct : String → Addr) : Hp → (Nat → Option Addr) → List D → List V → Prop
  | nil {G : Hp} {m : Nat → Option Addr} : RepL K ct G m [] []
  | cons {G : Hp} {m : Nat → Option Addr} {d : D} {v : V} {ds : List D} {vs : List V} : Rep K ct G m d v → RepL K ct G m ds vs → RepL K ct G m (d :: ds) (v :: vs)
end

def Grow (m m' : Nat → Option Addr) : Prop := ∀ i a, m i = some a → m' i = some a
theorem Grow.refl {m : Nat → Option Addr} : Grow m m := fun _ _ h => h
theorem Grow.trans {m m1 m2 : Nat → Option Addr} (a : Grow m m1) (b : Grow m1 m2) : Grow m m2 := fun i x h => b i x (a i x h)

theorem rd_mono {G G' : Hp} {a : Addr} {u : HO} (e : Same G G') (h : Rd G a u) : Rd G' a u := by
  rcases h with h | ⟨o, h⟩
  · exact .inl (e _ _ h)
  · exact .inr ⟨o, e _ _ h⟩
theorem sqt_mono {K : PySem.W.Frag} {G G' : Hp} {a : Addr} {xs : List V} (e : Same G G') (h : SqT K G a xs) : SqT K G' a xs := by
  rcases h with h | h
  · exact .inl (rd_mono e h)
  · exact .inr h
section
variable {K : PySem.W.Frag} {ct : String → Addr} {G G' : Hp} {m m' : Nat → Option Addr}
theorem minus_mono {G G' : Hp} (e : Same G G') (as : List Addr) : Same (minus G as) (minus G' as) := fun b o h => by
  unfold minus at *
  split at h
  · exact nomatch h
  · rename_i z
    rw [if_neg z]
    exact e _ _ h
theorem CellsG.mono {G G' : Hp} {cl : List (Str × Addr)} {fr : List Str} {vs : List V} (e : Same G G') (c : CellsG G cl fr vs) : CellsG G' cl fr vs := ⟨c.len, c.inj, c.all, fun i y h => by
  obtain ⟨a, v, h1, h2, o, h3⟩ := c.has i y h
  exact ⟨a, v, h1, h2, o, e _ _ h3⟩⟩
mutual
theorem Rep.mono' : ∀ {G G' : Hp} {m m' : Nat → Option Addr} {d : D} {v : V}, Same G G' → Grow m m' → Rep K ct G m d v → Rep K ct G' m' d v
  | _, _, _, _, _, _, _, _, .non => .non
  | _, _, _, _, _, _, _, _, .bl b => .bl b
  | _, _, _, _, _, _, _, _, .int i => .int i
  | _, _, _, _, _, _, _, _, .str x => .str x
  | _, _, _, _, _, _, _, _, .fn a => .fn a
  | _, _, _, _, _, _, _, g, .ob h => .ob (g _ _ h)
  | _, _, _, _, _, _, e, g, .clo h1 h2 h3 h4 r => .clo (e _ _ h1) (e _ _ h2) h3 (h4.mono e) (RepL.mono' (minus_mono e _) g r)
  | _, _, _, _, _, _, e, g, .tup h r => .tup (sqt_mono e h) (RepL.mono' e g r)
  | _, _, _, _, _, _, e, g, .lst h r => .lst (e.seq h) (RepL.mono' e g r)
  | _, _, _, _, _, _, e, g, .dct h l r => .dct (e _ _ h) l (RepL.mono' e g r)
  | _, _, _, _, _, _, e, g, .ev0 h => .ev0 (e _ _ h)
  | _, _, _, _, _, _, e, g, .ev n h h2 l r => .ev n (e _ _ h) (e _ _ h2) l (RepL.mono' e g r)
theorem RepL.mono' : ∀ {G G' : Hp} {m m' : Nat → Option Addr} {ds : List D} {vs : List V}, Same G G' → Grow m m' → RepL K ct G m ds vs → RepL K ct G' m' ds vs
  | _, _, _, _, _, _, _, _, .nil => .nil
  | _, _, _, _, _, _, e, g, .cons h r => .cons (Rep.mono' e g h) (RepL.mono' e g r)
end
theorem Rep.mono (e : Same G G') (g : Grow m m') {d : D} {v : V} (h : Rep K ct G m d v) : Rep K ct G' m' d v := Rep.mono' e g h
theorem RepL.mono (e : Same G G') (g : Grow m m') {ds : List D} {vs : List V} (h : RepL K ct G m ds vs) : RepL K ct G' m' ds vs := RepL.mono' e g h
theorem RepL.length : ∀ {ds : List D} {vs : List V}, RepL K ct G m ds vs → ds.length = vs.length
  | _, _, .nil => rfl
  | _, _, .cons _ r => by simp [RepL.length r]
theorem RepL.get : ∀ {ds : List D} {vs : List V} {i : Nat} {d : D}, RepL K ct G m ds vs → ds[i]? = some d → ∃ v, vs[i]? = some v ∧ Rep K ct G m d v
  | _, _, 0, _, .cons h _, e => by simp at e; subst e; exact ⟨_, rfl, h⟩
  | _, _, i + 1, d, .cons _ r, e => by
    obtain ⟨v, h1, h2⟩ := RepL.get (i := i) (d := d) r (by simpa using e)
    exact ⟨v, by simpa using h1, h2⟩
theorem RepL.append : ∀ {ds es : List D} {vs us : List V}, RepL K ct G m ds vs → RepL K ct G m es us → RepL K ct G m (ds ++ es) (vs ++ us)
  | _, _, _, _, .nil, s => s
  | _, _, _, _, .cons h r, s => .cons h (RepL.append r s)
theorem RepL.one {d : D} {v : V} (h : Rep K ct G m d v) : RepL K ct G m [d] [v] := .cons h .nil
theorem RepL.set : ∀ {ds : List D} {vs : List V} {d : D} {v : V} (i : Nat), RepL K ct G m ds vs → Rep K ct G m d v → RepL K ct G m (ds.set i d) (vs.set i v)
  | _, _, _, _, _, .nil, _ => .nil
  | _, _, _, _, 0, .cons _ r, h => .cons h r
  | _, _, _, _, i + 1, .cons q r, h => .cons q (RepL.set i r h)
theorem RepL.take : ∀ {ds : List D} {vs : List V} (n : Nat), RepL K ct G m ds vs → RepL K ct G m (ds.take n) (vs.take n)
  | _, _, 0, _ => .nil
  | _, _, _ + 1, .nil => .nil
  | _, _, n + 1, .cons h r => .cons h (RepL.take n r)
theorem RepL.drop : ∀ {ds : List D} {vs : List V} (n : Nat), RepL K ct G m ds vs → RepL K ct G m (ds.drop n) (vs.drop n)
  | _, _, 0, r => r
  | _, _, _ + 1, .nil => .nil
  | _, _, n + 1, .cons _ r => RepL.drop n r
theorem RepL.reverse : ∀ {ds : List D} {vs : List V}, RepL K ct G m ds vs → RepL K ct G m ds.reverse vs.reverse
  | _, _, .nil => .nil
  | _, _, .cons h r => by
    rw [List.reverse_cons, List.reverse_cons]
    exact RepL.append (RepL.reverse r) (RepL.one h)
theorem RepL.erase : ∀ {ds : List D} {vs : List V} (i : Nat), RepL K ct G m ds vs → RepL K ct G m (ds.eraseIdx i) (vs.eraseIdx i)
  | _, _, _, .nil => .nil
  | _, _, 0, .cons _ r => r
  | _, _, i + 1, .cons q r => .cons q (RepL.erase i r)
theorem RepL.insert : ∀ {ds : List D} {vs : List V} {d : D} {v : V} (i : Nat), RepL K ct G m ds vs → Rep K ct G m d v → RepL K ct G m (ds.take i ++ d :: ds.drop i) (vs.take i ++ v :: vs.drop i) := fun i r h =>
  (r.take i).append (.cons h (r.drop i))
theorem RepL.ints : ∀ ns : List Int, RepL K ct G m (ns.map D.int) (ns.map V.int)
  | [] => .nil
  | n :: r => .cons (.int n) (RepL.ints r)
theorem RepL.of_ints : ∀ {ns : List Int} {vs : List V}, RepL K ct G m (ns.map D.int) vs → vs = ns.map V.int
  | [], _, h => by cases h; rfl
  | n :: ns, vs, h => by
    change RepL K ct G m (D.int n :: ns.map D.int) vs at h
    cases h with
    | cons a r =>
      cases a
      rw [RepL.of_ints r]
      rfl
theorem RepL.of_bls : ∀ {bs : List Bool} {vs : List V}, RepL K ct G m (bs.map D.bl) vs → vs = bs.map V.bl
  | [], _, h => by cases h; rfl
  | n :: ns, vs, h => by
    change RepL K ct G m (D.bl n :: ns.map D.bl) vs at h
    cases h with
    | cons a r =>
      cases a
      rw [RepL.of_bls r]
      rfl
theorem RepL.of_strs : ∀ {bs : List Str} {vs : List V}, RepL K ct G m (bs.map D.str) vs → vs = bs.map V.str
  | [], _, h => by cases h; rfl
  | n :: ns, vs, h => by
    change RepL K ct G m (D.str n :: ns.map D.str) vs at h
    cases h with
    | cons a r =>
      cases a
      rw [RepL.of_strs r]
      rfl
end
/-- pairs of a key and a thing -/
inductive RepP {κ : Type} (K : PySem.W.Frag) (ct : String → Addr) (G : Hp) (m : Nat → Option Addr) : List (κ × D) → List (κ × V) → Prop
  | nil : RepP K ct G m [] []
  | cons {x : κ} {d : D} {v : V} {ds : List (κ × D)} {vs : List (κ × V)} : Rep K ct G m d v → RepP K ct G m ds vs → RepP K ct G m ((x, d) :: ds) ((x, v) :: vs)
section
variable {κ : Type} {K : PySem.W.Frag} {ct : String → Addr} {G G' : Hp} {m m' : Nat → Option Addr}
theorem RepP.mono (e : Same G G') (g : Grow m m') {ds : List (κ × D)} {vs : List (κ × V)} (r : RepP K ct G m ds vs) : RepP K ct G' m' ds vs := by
  induction r with
  | nil => exact .nil
  | cons h _ ih => exact .cons (h.mono e g) ih
theorem RepP.length {ds : List (κ × D)} {vs : List (κ × V)} (r : RepP K ct G m ds vs) : ds.length = vs.length := by
  induction r with
  | nil => rfl
  | cons h _ ih => simp [ih]
theorem RepP.keys {ds : List (κ × D)} {vs : List (κ × V)} (r : RepP K ct G m ds vs) : ds.map (·.1) = vs.map (·.1) := by
  induction r with
  | nil => rfl
  | cons h _ ih => simp [ih]
theorem RepP.vals {ds : List (κ × D)} {vs : List (κ × V)} (r : RepP K ct G m ds vs) : RepL K ct G m (ds.map (·.2)) (vs.map (·.2)) := by
  induction r with
  | nil => exact .nil
  | cons h _ ih => exact .cons h ih
theorem RepP.zip : ∀ {ks : List κ} {ds : List D} {vs : List V}, RepL K ct G m ds vs → RepP K ct G m (ks.zip ds) (ks.zip vs)
  | [], _, _, _ => .nil
  | _ :: _, _, _, .nil => .nil
  | _ :: _, _, _, .cons h r => .cons h (RepP.zip r)
theorem RepP.append {ds es : List (κ × D)} {vs us : List (κ × V)} (r : RepP K ct G m ds vs) (s : RepP K ct G m es us) : RepP K ct G m (ds ++ es) (vs ++ us) := by
  induction r with
  | nil => exact s
  | cons h _ ih => exact .cons h ih
theorem RepP.lookup [BEq κ] {ds : List (κ × D)} {vs : List (κ × V)} {x : κ} (r : RepP K ct G m ds vs) : (ds.lookup x = none ∧ vs.lookup x = none) ∨ ∃ d v, ds.lookup x = some d ∧ vs.lookup x = some v ∧ Rep K ct G m d v := by
  induction r with
  | nil => exact .inl ⟨rfl, rfl⟩
  | @cons y d v ds vs h _ ih =>
    simp only [List.lookup_cons]
    cases e : x == y with
    | true => exact .inr ⟨d, v, rfl, rfl, h⟩
    | false => exact ih
end

/-- the frozen heap, the whole heap, where the things of the store stand, the store -/
structure Vw where
  G : Hp
  H : Hp
  m : Nat → Option Addr
  st : Sto
/-- b belongs to a thing of the store -/
def Vw.owns (v : Vw) (b : Addr) : Prop := ∃ (i : Nat) (o : O) (a : Addr), v.st[i]? = some o ∧ o.live = true ∧ v.m i = some a ∧ (b = a ∨ ∃ C fs, v.H a = some (.ins C b fs))
def ORep (K : PySem.W.Frag) (ct : String → Addr) (v : Vw) (a : Addr) : O → Prop
  | .lst xs => ∃ vs, v.H a = some (.lst vs) ∧ RepL K ct v.G v.m xs vs
  | .dK kvs => ∃ vs, v.H a = some (.dK vs) ∧ RepP K ct v.G v.m kvs vs
  | .dT kvs => ∃ vs, v.H a = some (.dT vs) ∧ RepP K ct v.G v.m kvs vs
  | .ins c fs => ∃ dx vs, v.H a = some (.ins (ct c) dx vs) ∧ v.H dx = some (.own a) ∧ v.G dx = none ∧ RepP K ct v.G v.m fs vs
  | .tab x nm => a = ct x ∧ ∃ ps, v.H a = some (.tbl ps) ∧ PySem.TriplesOk ps.toList ∧ ∀ (pos : Pos) (cv : Value), codeAmong pos ps.toList = some cv → ∃ c, cv = .ref c ∧ v.G c = some (LamX.CodeO c (nm pos.line pos.col))
  | .fK _ => False
  | .gone => True
/-- the dict that is read alone, at i -/
def FkR (K : PySem.W.Frag) (ct : String → Addr) (v : Vw) (i : Nat) (kvs : List (Key × D)) : Prop := ∃ a ob vs, v.m i = some a ∧ v.G a = some (.frz ob (.dK vs)) ∧ RepP K ct v.G v.m kvs vs
theorem FkR.mono {K : PySem.W.Frag} {ct : String → Addr} {v v' : Vw} {i : Nat} {kvs : List (Key × D)} (g : Same v.G v'.G) (m : Grow v.m v'.m) (r : FkR K ct v i kvs) : FkR K ct v' i kvs := by
  obtain ⟨a, ob, vs, h1, h2, h3⟩ := r
  exact ⟨a, ob, vs, m _ _ h1, g _ _ h2, h3.mono g m⟩
structure SR (K : PySem.W.Frag) (ct : String → Addr) (v : Vw) : Prop where
  sub : Same v.G v.H
  dom : ∀ i, v.st.length ≤ i → v.m i = none
  obj : ∀ (i : Nat) (o : O), v.st[i]? = some o → o.live = true → ∃ a, v.m i = some a ∧ v.G a = none ∧ ORep K ct v a o
  inj : ∀ (i j : Nat) (o u : O) (a : Addr), v.st[i]? = some o → v.st[j]? = some u → o.live = true → u.live = true → v.m i = some a → v.m j = some a → i = j
  fk : ∀ (i : Nat) (kvs : List (Key × D)), v.st[i]? = some (.fK kvs) → FkR K ct v i kvs
/-- a step: what was frozen is so still, what was tracked and is none of the store's stands -/
structure Le (v v' : Vw) : Prop where
  g : Same v.G v'.G
  m : Grow v.m v'.m
  h : ∀ b o, v.H b = some o → ¬ v.owns b → v'.H b = some o
  nw : ∀ b, v'.G b ≠ none → v.G b ≠ none ∨ v.H b = none ∨ v.owns b
  ow : ∀ b, v'.owns b → v.owns b ∨ v.H b = none
  al : ∀ b, v'.H b = none → v.H b = none
theorem same_none {H H' : Hp} (s : Same H H') (b : Addr) (h : H' b = none) : H b = none := s.free h
theorem Le.refl {v : Vw} : Le v v := ⟨Same.refl _, .refl, fun _ _ h _ => h, fun _ h => .inl h, fun _ h => .inl h, fun _ h => h⟩
theorem Le.trans {a b c : Vw} (x : Le a b) (y : Le b c) : Le a c := by
  have key : ∀ p, b.H p = none ∨ b.owns p → a.H p = none ∨ a.owns p := fun p z => by
    cases e : a.H p with
    | none => exact .inl rfl
    | some o =>
      by_cases q : a.owns p
      · exact .inr q
      · have h1 := x.h p o e q
        rcases z with z | z
        · rw [h1] at z; cases z
        · rcases x.ow p z with z | z
          · exact .inr z
          · rw [e] at z; cases z
  refine ⟨x.g.trans y.g, x.m.trans y.m, fun p o h n => ?_, fun p h => ?_, fun p h => ?_, fun p h => x.al p (y.al p h)⟩
  · refine y.h p o (x.h p o h n) fun z => ?_
    rcases x.ow p z with z | z
    · exact n z
    · rw [h] at z; cases z
  · rcases y.nw p h with z | z
    · exact x.nw p z
    · exact .inr (key p z)
  · rcases y.ow p h with z | z
    · exact x.ow p z
    · exact (key p (.inl z)).symm
theorem same_new {H : Hp} {p : Addr} (h : H p = none) (o : HO) : Same H (upd H p o) := fun b u q => by rw [upd_ne (ne_of_none q h)]; exact q
theorem same_upd {G H : Hp} {p : Addr} {o : HO} (s : Same G H) : Same (upd G p o) (upd H p o) := fun b u q => by
  unfold upd at *
  by_cases e : b = p
  · rw [if_pos e] at q ⊢
    exact q
  · rw [if_neg e] at q ⊢
    exact s _ _ q
section
variable {K : PySem.W.Frag} {ct : String → Addr}
theorem Le.rep {v v' : Vw} {d : D} {x : V} (l : Le v v') (r : Rep K ct v.G v.m d x) : Rep K ct v'.G v'.m d x := r.mono l.g l.m
theorem Le.repl {v v' : Vw} {d : List D} {x : List V} (l : Le v v') (r : RepL K ct v.G v.m d x) : RepL K ct v'.G v'.m d x := r.mono l.g l.m
theorem SR.obj_ne {v : Vw} (s : SR K ct v) {i : Nat} {o : O} {a : Addr} (h : v.st[i]? = some o) (l : o.live = true) (e : v.m i = some a) : v.G a = none ∧ ∃ u, v.H a = some u ∧ ∀ x, u ≠ .own x := by
  obtain ⟨a', e', g, r⟩ := s.obj i o h l
  rw [e] at e'
  cases e'
  refine ⟨g, ?_⟩
  cases o with
  | gone => cases l
  | lst xs => obtain ⟨vs, h, _⟩ := r; exact ⟨_, h, fun _ z => nomatch z⟩
  | dK xs => obtain ⟨vs, h, _⟩ := r; exact ⟨_, h, fun _ z => nomatch z⟩
  | dT xs => obtain ⟨vs, h, _⟩ := r; exact ⟨_, h, fun _ z => nomatch z⟩
  | ins c fs => obtain ⟨dx, vs, h, _⟩ := r; exact ⟨_, h, fun _ z => nomatch z⟩
  | tab x nm => obtain ⟨_, ps, h, _⟩ := r; exact ⟨_, h, fun _ z => nomatch z⟩
  | fK xs => cases l
/-- the own dict of an instance of the store -/
theorem SR.dx {v : Vw} (s : SR K ct v) {i : Nat} {o : O} {a C b : Addr} {fs : List (Str × V)} (h : v.st[i]? = some o) (l : o.live = true) (e : v.m i = some a) (hi : v.H a = some (.ins C b fs)) : v.H b = some (.own a) ∧ v.G b = none := by
  obtain ⟨a', e', g, r⟩ := s.obj i o h l
  rw [e] at e'
  cases e'
  cases o with
  | gone => cases l
  | lst xs => obtain ⟨vs, h, _⟩ := r; rw [hi] at h; cases h
  | dK xs => obtain ⟨vs, h, _⟩ := r; rw [hi] at h; cases h
  | dT xs => obtain ⟨vs, h, _⟩ := r; rw [hi] at h; cases h
  | tab x nm => obtain ⟨_, ps, h, _⟩ := r; rw [hi] at h; cases h
  | fK xs => cases l
  | ins c fs =>
    obtain ⟨dx, vs, h, h2, h3, _⟩ := r
    rw [hi] at h
    cases h
    exact ⟨h2, h3⟩
/-- what is the store's is tracked and not frozen -/
theorem SR.owns_tracked {v : Vw} (s : SR K ct v) {b : Addr} (h : v.owns b) : v.G b = none ∧ ∃ u, v.H b = some u := by
  obtain ⟨i, o, a, e, l, em, h⟩ := h
  rcases h with rfl | ⟨C, fs, h⟩
  · obtain ⟨g, u, hu, _⟩ := s.obj_ne e l em
    exact ⟨g, u, hu⟩
  · obtain ⟨h1, h2⟩ := s.dx e l em h
    exact ⟨h2, _, h1⟩
theorem SR.not_owned {v : Vw} (s : SR K ct v) {b : Addr} (h : v.H b = none) : ¬ v.owns b := fun z => by
  obtain ⟨_, u, hu⟩ := s.owns_tracked z
  rw [h] at hu
  cases hu
theorem ORep.mono' {v v' : Vw} {a : Addr} {o : O} (g : Same v.G v'.G) (m : Grow v.m v'.m) (ha : v'.H a = v.H a) (hd : ∀ C dx fs, v.H a = some (.ins C dx fs) → v.H dx = some (.own a) → v.G dx = none → v'.H dx = v.H dx ∧ v'.G dx = none) (r : ORep K ct v a o) : ORep K ct v' a o := by
  cases o with
  | gone => trivial
  | lst xs => obtain ⟨vs, h, r⟩ := r; exact ⟨vs, ha.trans h, r.mono g m⟩
  | dK xs => obtain ⟨vs, h, r⟩ := r; exact ⟨vs, ha.trans h, r.mono g m⟩
  | dT xs => obtain ⟨vs, h, r⟩ := r; exact ⟨vs, ha.trans h, r.mono g m⟩
  | fK xs => exact r
  | tab x nm =>
    obtain ⟨e, ps, h, t, r⟩ := r
    exact ⟨e, ps, ha.trans h, t, fun pos cv q => by
      obtain ⟨c, e1, e2⟩ := r pos cv q
      exact ⟨c, e1, g _ _ e2⟩⟩
  | ins c fs =>
    obtain ⟨dx, vs, h, h2, h3, r⟩ := r
    obtain ⟨h4, h5⟩ := hd _ _ _ h h2 h3
    exact ⟨dx, vs, ha.trans h, h4.trans h2, h5, r.mono g m⟩
theorem SR.free {v : Vw} (s : SR K ct v) {p : Addr} (h : v.H p = none) : v.G p = none := s.sub.free h
/-- the heaps go on, the store is as it was -/
theorem grow_ok {v : Vw} {G' H' : Hp} (s : SR K ct v) (hg : Same v.G G') (hh : Same v.H H') (sub : Same G' H') (nw : ∀ b, G' b ≠ none → v.G b ≠ none ∨ v.H b = none) : Le v ⟨G', H', v.m, v.st⟩ ∧ SR K ct ⟨G', H', v.m, v.st⟩ := by
  have keepG : ∀ b u, v.H b = some u → v.G b = none → G' b = none := fun b u h g => by
    cases z : G' b with
    | none => rfl
    | some w =>
      rcases nw b (by rw [z]; exact fun y => nomatch y) with y | y
      · exact absurd g y
      · rw [h] at y; cases y
  refine ⟨⟨hg, .refl, fun b u q _ => hh _ _ q, fun b q => (nw b q).imp id .inl, fun b ⟨i, u, a, e, l, em, q⟩ => ?_, same_none hh⟩, sub, s.dom, fun i u e l => ?_, s.inj, fun i kvs e => (s.fk i kvs e).mono hg .refl⟩
  · rcases q with rfl | ⟨C, fs, q⟩
    · exact .inl ⟨i, u, b, e, l, em, .inl rfl⟩
    · obtain ⟨_, w, hw, _⟩ := s.obj_ne e l em
      have q' : H' a = some (.ins C b fs) := q
      rw [hh _ _ hw] at q'
      cases q'
      exact .inl ⟨i, u, a, e, l, em, .inr ⟨C, fs, hw⟩⟩
  · obtain ⟨a, em, ga, r⟩ := s.obj i u e l
    obtain ⟨_, w, hw, _⟩ := s.obj_ne e l em
    exact ⟨a, em, keepG _ _ hw ga, r.mono' hg .refl ((hh _ _ hw).trans hw.symm) fun C dx fs _ q1 q2 => ⟨(hh _ _ q1).trans q1.symm, keepG _ _ q1 q2⟩⟩
/-- a new object at p, frozen -/
def Vw.new (v : Vw) (p : Addr) (o : HO) : Vw := ⟨upd v.G p o, upd v.H p o, v.m, v.st⟩
theorem new_ok {v : Vw} {p : Addr} {o : HO} (s : SR K ct v) (h : v.H p = none) : Le v (v.new p o) ∧ SR K ct (v.new p o) :=
  grow_ok s (same_new (s.free h) _) (same_new h _) (same_upd s.sub) fun b q => by
    by_cases z : b = p
    · exact .inr (z ▸ h)
    · rw [upd_ne z] at q
      exact .inl q
theorem more_ok {v : Vw} {H' : Hp} (s : SR K ct v) (h : Same v.H H') : Le v ⟨v.G, H', v.m, v.st⟩ ∧ SR K ct ⟨v.G, H', v.m, v.st⟩ :=
  grow_ok s (Same.refl _) h (s.sub.trans h) fun _ q => .inl q

/-! ### things of the store -/
def mset (m : Nat → Option Addr) (i : Nat) (a : Addr) : Nat → Option Addr := fun j => if j = i then some a else m j
theorem mset_same {m : Nat → Option Addr} {i : Nat} {a : Addr} : mset m i a i = some a := if_pos rfl
theorem mset_ne {m : Nat → Option Addr} {i j : Nat} {a : Addr} (h : j ≠ i) : mset m i a j = m j := if_neg h
theorem mset_grow {m : Nat → Option Addr} {i : Nat} {a : Addr} (h : m i = none) : Grow m (mset m i a) := fun j b e => by
  rw [mset_ne]
  · exact e
  · intro z; rw [z, h] at e; cases e
theorem get_snoc {st : Sto} {o u : O} {i : Nat} (e : (st ++ [o])[i]? = some u) : (i < st.length ∧ st[i]? = some u) ∨ (i = st.length ∧ u = o) := by
  by_cases z : i < st.length
  · rw [List.getElem?_append_left z] at e
    exact .inl ⟨z, e⟩
  · rw [List.getElem?_append_right (Nat.not_lt.mp z)] at e
    have h0 : i - st.length = 0 := by
      have := (List.getElem?_eq_some_iff.mp e).1
      simp only [List.length_cons, List.length_nil] at this
      omega
    rw [h0] at e
    simp only [List.getElem?_cons_zero, Option.some.injEq] at e
    exact .inr ⟨by omega, e.symm⟩
/-- a new thing of the store: its address, the heap with it -/
def Vw.alloc (v : Vw) (p : Addr) (H' : Hp) (o : O) : Vw := ⟨v.G, H', mset v.m v.st.length p, v.st ++ [o]⟩
theorem alloc_ok {v : Vw} {p : Addr} {H' : Hp} {o : O} (s : SR K ct v) (hp : v.H p = none) (hs : Same v.H H') (hn : ∀ C b fs, H' p = some (.ins C b fs) → v.H b = none)
    (r : ORep K ct (v.alloc p H' o) p o) : Le v (v.alloc p H' o) ∧ SR K ct (v.alloc p H' o) := by
  have m0 : v.m v.st.length = none := s.dom _ (Nat.le_refl _)
  have gr : Grow v.m (mset v.m v.st.length p) := mset_grow m0
  have np : ∀ {i : Nat} {u : O} {a : Addr}, v.st[i]? = some u → u.live = true → v.m i = some a → a ≠ p := fun e l em => by
    obtain ⟨_, w, hw, _⟩ := s.obj_ne e l em
    exact ne_of_none hw hp
  have get_snoc : ∀ {i : Nat} {u : O}, (v.alloc p H' o).st[i]? = some u → (i < v.st.length ∧ v.st[i]? = some u) ∨ (i = v.st.length ∧ u = o) := fun e => get_snoc e
  refine ⟨⟨Same.refl _, gr, fun b u q _ => hs _ _ q, fun b q => .inl q, fun b ⟨i, u, a, e, l, em, q⟩ => ?_, same_none hs⟩, s.sub.trans hs, fun i hi => ?_, fun i u e l => ?_, fun i j u w a e1 e2 l1 l2 m1 m2 => ?_, fun i kvs e => ?_⟩
  · have em' : mset v.m v.st.length p i = some a := em
    rcases get_snoc e with ⟨z, e⟩ | ⟨rfl, rfl⟩
    · rw [mset_ne (Nat.ne_of_lt z)] at em'
      rcases q with rfl | ⟨C, fs, q⟩
      · exact .inl ⟨i, u, b, e, l, em', .inl rfl⟩
      · obtain ⟨_, w, hw, _⟩ := s.obj_ne e l em'
        have q' : H' a = some (.ins C b fs) := q
        rw [hs _ _ hw] at q'
        cases q'
        exact .inl ⟨i, u, a, e, l, em', .inr ⟨C, fs, hw⟩⟩
    · rw [mset_same] at em'
      cases em'
      rcases q with rfl | ⟨C, fs, q⟩
      · exact .inr hp
      · exact .inr (hn C b fs q)
  · have hl : v.st.length + 1 ≤ i := by simpa [Vw.alloc] using hi
    show mset v.m v.st.length p i = none
    rw [mset_ne (by omega)]
    exact s.dom i (by omega)
  · rcases get_snoc e with ⟨z, e⟩ | ⟨rfl, rfl⟩
    · obtain ⟨a, em, ga, r⟩ := s.obj i u e l
      obtain ⟨_, w, hw, _⟩ := s.obj_ne e l em
      exact ⟨a, (mset_ne (Nat.ne_of_lt z)).trans em, ga, r.mono' (v := v) (v' := v.alloc p H' o) (Same.refl _) gr ((hs _ _ hw).trans hw.symm) fun C dx fs _ q1 q2 => ⟨(hs _ _ q1).trans q1.symm, q2⟩⟩
    · exact ⟨p, mset_same, s.free hp, r⟩
  · have m1' : mset v.m v.st.length p i = some a := m1
    have m2' : mset v.m v.st.length p j = some a := m2
    rcases get_snoc e1 with ⟨z1, f1⟩ | ⟨y1, f1⟩ <;> rcases get_snoc e2 with ⟨z2, f2⟩ | ⟨y2, f2⟩
    · rw [mset_ne (Nat.ne_of_lt z1)] at m1'
      rw [mset_ne (Nat.ne_of_lt z2)] at m2'
      exact s.inj i j u w a f1 f2 l1 l2 m1' m2'
    · rw [mset_ne (Nat.ne_of_lt z1)] at m1'
      rw [y2, mset_same] at m2'
      cases m2'
      exact absurd rfl (np f1 l1 m1')
    · rw [mset_ne (Nat.ne_of_lt z2)] at m2'
      rw [y1, mset_same] at m1'
      cases m1'
      exact absurd rfl (np f2 l2 m2')
    · rw [y1, y2]
  · rcases get_snoc e with ⟨_, f⟩ | ⟨_, f⟩
    · exact FkR.mono (v := v) (v' := v.alloc p H' o) (Same.refl _) gr (s.fk i kvs f)
    · subst f
      exact r.elim
/-- a thing of the store is changed, at its own address -/
def Vw.put (v : Vw) (i : Nat) (a : Addr) (u : HO) (o : O) : Vw := ⟨v.G, upd v.H a u, v.m, v.st.set i o⟩
theorem put_ok {v : Vw} {i : Nat} {a : Addr} {u : HO} {o o0 : O} (s : SR K ct v) (e0 : v.st[i]? = some o0) (l0 : o0.live = true) (em : v.m i = some a) (hn : ∀ C b fs, u = .ins C b fs → ∃ fs0, v.H a = some (.ins C b fs0))
    (r : ORep K ct (v.put i a u o) a o) : Le v (v.put i a u o) ∧ SR K ct (v.put i a u o) := by
  obtain ⟨ga, w0, hw0, no0⟩ := s.obj_ne e0 l0 em
  have own : v.owns a := ⟨i, o0, a, e0, l0, em, .inl rfl⟩
  have get : ∀ {j : Nat} {w : O}, (v.st.set i o)[j]? = some w → (j = i ∧ w = o) ∨ (j ≠ i ∧ v.st[j]? = some w) := fun {j w} e => by
    by_cases z : i = j
    · subst z
      rw [List.getElem?_set_self (List.getElem?_eq_some_iff.mp e0).1] at e
      exact .inl ⟨rfl, (Option.some.inj e).symm⟩
    · rw [List.getElem?_set_ne z] at e
      exact .inr ⟨fun q => z q.symm, e⟩
  refine ⟨⟨Same.refl _, .refl, fun b w q n => ?_, fun b q => .inl q, fun b ⟨j, w, a2, e, l, em2, q⟩ => ?_, fun b q => ?_⟩, fun b w q => ?_, fun j hj => s.dom j (by simpa [Vw.put] using hj), fun j w e l => ?_, fun j k w w2 a2 e1 e2 l1 l2 m1 m2 => ?_, fun j kvs e => ?_⟩
  · show upd v.H a u b = some w
    have z : b ≠ a := fun z => n (by rw [z]; exact own)
    rw [upd_ne z]
    exact q
  · rcases get e with ⟨rfl, rfl⟩ | ⟨z, e⟩
    · have em2' : v.m j = some a2 := em2
      rw [em] at em2'
      cases em2'
      rcases q with rfl | ⟨C, fs, q⟩
      · exact .inl own
      · have q' : upd v.H a u a = some (.ins C b fs) := q
        rw [upd_same] at q'
        obtain ⟨fs0, h0⟩ := hn C b fs (Option.some.inj q')
        exact .inl ⟨j, o0, a, e0, l0, em, .inr ⟨C, fs0, h0⟩⟩
    · have em2' : v.m j = some a2 := em2
      rcases q with rfl | ⟨C, fs, q⟩
      · exact .inl ⟨j, w, b, e, l, em2', .inl rfl⟩
      · have na : a2 ≠ a := fun zz => z (s.inj j i w o0 a e e0 l l0 (zz ▸ em2') em)
        have q' : upd v.H a u a2 = some (.ins C b fs) := q
        rw [upd_ne na] at q'
        exact .inl ⟨j, w, a2, e, l, em2', .inr ⟨C, fs, q'⟩⟩
  · have q' : upd v.H a u b = none := q
    by_cases z : b = a
    · rw [z, upd_same] at q'
      cases q'
    · rw [upd_ne z] at q'
      exact q'
  · show upd v.H a u b = some w
    have q' : v.G b = some w := q
    have z : b ≠ a := fun z => by rw [z, ga] at q'; cases q'
    rw [upd_ne z]
    exact s.sub _ _ q'
  · rcases get e with ⟨rfl, rfl⟩ | ⟨z, e⟩
    · exact ⟨a, em, ga, r⟩
    · obtain ⟨a2, em2, ga2, r2⟩ := s.obj j w e l
      have na : a2 ≠ a := fun zz => z (s.inj j i w o0 a e e0 l l0 (zz ▸ em2) em)
      refine ⟨a2, em2, ga2, r2.mono' (v := v) (v' := v.put i a u o) (Same.refl _) .refl (upd_ne na) fun C dx fs _ q1 q2 => ⟨upd_ne fun zz => ?_, q2⟩⟩
      rw [zz, hw0] at q1
      exact no0 _ (Option.some.inj q1)
  · rcases get e1 with ⟨y1, _⟩ | ⟨z1, f1⟩ <;> rcases get e2 with ⟨y2, _⟩ | ⟨z2, f2⟩
    · rw [y1, y2]
    · exact s.inj j k o0 w2 a2 (y1 ▸ e0) f2 l0 l2 m1 m2
    · exact s.inj j k w o0 a2 f1 (y2 ▸ e0) l1 l0 m1 m2
    · exact s.inj j k w w2 a2 f1 f2 l1 l2 m1 m2
  · rcases get e with ⟨_, f⟩ | ⟨_, f⟩
    · subst f
      exact r.elim
    · exact s.fk j kvs f
/-- a thing of the store is frozen, or forgotten -/
def Vw.frz (v : Vw) (i : Nat) (a : Addr) (u : HO) : Vw := ⟨upd v.G a u, v.H, v.m, v.st.set i .gone⟩
theorem frz_ok {v : Vw} {i : Nat} {a : Addr} {u : HO} {o0 : O} (s : SR K ct v) (e0 : v.st[i]? = some o0) (l0 : o0.live = true) (em : v.m i = some a) (hu : v.H a = some u) : Le v (v.frz i a u) ∧ SR K ct (v.frz i a u) := by
  obtain ⟨ga, w0, hw0, no0⟩ := s.obj_ne e0 l0 em
  have own : v.owns a := ⟨i, o0, a, e0, l0, em, .inl rfl⟩
  have get : ∀ {j : Nat} {w : O}, (v.st.set i .gone)[j]? = some w → w.live = true → j ≠ i ∧ v.st[j]? = some w := fun {j w} e l => by
    by_cases z : i = j
    · subst z
      rw [List.getElem?_set_self (List.getElem?_eq_some_iff.mp e0).1] at e
      cases e
      cases l
    · rw [List.getElem?_set_ne z] at e
      exact ⟨fun q => z q.symm, e⟩
  have sg := same_new ga u
  refine ⟨⟨sg, .refl, fun b w q n => q, fun b q => ?_, fun b ⟨j, w, a2, e, l, em2, q⟩ => ?_, fun b q => q⟩, fun b w q => ?_, fun j hj => s.dom j (by simpa [Vw.frz] using hj), fun j w e l => ?_, fun j k w w2 a2 e1 e2 l1 l2 m1 m2 => ?_, fun j kvs e => ?_⟩
  · by_cases z : b = a
    · exact .inr (.inr (z ▸ own))
    · have q' : upd v.G a u b ≠ none := q
      rw [upd_ne z] at q'
      exact .inl q'
  · obtain ⟨_, e⟩ := get e l
    exact .inl ⟨j, w, a2, e, l, em2, q⟩
  · by_cases z : b = a
    · have q' : upd v.G a u b = some w := q
      rw [z, upd_same] at q'
      cases q'
      show v.H b = some u
      rw [z]
      exact hu
    · have q' : upd v.G a u b = some w := q
      rw [upd_ne z] at q'
      exact s.sub _ _ q'
  · obtain ⟨z, e⟩ := get e l
    obtain ⟨a2, em2, ga2, r2⟩ := s.obj j w e l
    have na : a2 ≠ a := fun zz => z (s.inj j i w o0 a e e0 l l0 (zz ▸ em2) em)
    refine ⟨a2, em2, (upd_ne na).trans ga2, r2.mono' (v := v) (v' := v.frz i a u) sg .refl rfl fun C dx fs _ q1 q2 => ⟨rfl, (upd_ne fun zz => ?_).trans q2⟩⟩
    rw [zz, hw0] at q1
    exact no0 _ (Option.some.inj q1)
  · exact s.inj j k w w2 a2 (get e1 l1).2 (get e2 l2).2 l1 l2 m1 m2
  · by_cases z : i = j
    · subst z
      have e' : (v.st.set i .gone)[i]? = some (.fK kvs) := e
      rw [List.getElem?_set_self (List.getElem?_eq_some_iff.mp e0).1] at e'
      cases e'
    · have e' : (v.st.set i .gone)[j]? = some (.fK kvs) := e
      rw [List.getElem?_set_ne z] at e'
      exact FkR.mono (v := v) (v' := v.frz i a u) sg .refl (s.fk j kvs e')
end
end Gs

/-! G2: results, frames, expressions, tests, arguments. -/
namespace Gs
open PySem L2

structure Ex where
  cls : String
  fs : List (Str × D)
inductive R (α : Type) where
  | ok (a : α) (s : Sto) | exc (e : Ex) (s : Sto) | stk
def R.bind {α β : Type} (r : R α) (k : α → Sto → R β) : R β := match r with
  | .ok a s => k a s
  | .exc e s => .exc e s
  | .stk => .stk
def R.ofO {α : Type} (o : Option α) (s : Sto) : R α := match o with
  | some a => .ok a s
  | none => .stk

/-- what is fixed through a body: the view at its entry, the classes' addresses, what is wanted of an exception -/
structure Cc where
  v0 : Vw
  ct : String → Addr
  W : WX
/-- an exception's class and own dict -/
def RepX (K : PySem.W.Frag) (ct : String → Addr) (v : Vw) (e : Ex) (cls : Value) (dd : Option Addr) : Prop :=
  cls = .ref (ct e.cls) ∧ ((e.fs = [] ∧ dd = none) ∨ (e.fs ≠ [] ∧ ∃ d fs, dd = some d ∧ v.G d = some (.xd fs) ∧ RepP K ct v.G v.m e.fs fs))
abbrev Sl := List (Option D)
structure RE (K : PySem.W.Frag) (C : Cc) (σ : L2.St) (δ : Sl) (v : Vw) : Prop where
  le : Le C.v0 v
  sr : SR K C.ct v
  len : σ.length = δ.length
  sl : ∀ (i : Nat) (d : D), δ[i]? = some (some d) → ∃ x, σ[i]? = some (some x) ∧ Rep K C.ct v.G v.m d x
section
variable {K : PySem.W.Frag} {C : Cc} {σ : L2.St} {δ : Sl} {v v' : Vw}
theorem RE.step (r : RE K C σ δ v) (l : Le v v') (s : SR K C.ct v') : RE K C σ δ v' :=
  ⟨r.le.trans l, s, r.len, fun i d h => let ⟨x, e, q⟩ := r.sl i d h; ⟨x, e, l.rep q⟩⟩
theorem RE.setV {d : D} {x : V} (r : RE K C σ δ v) (i : Nat) (h : Rep K C.ct v.G v.m d x) : RE K C (σ.set i (some x)) (δ.set i (some d)) v := by
  refine ⟨r.le, r.sr, by simp [r.len], fun j e hs => ?_⟩
  by_cases z : i = j
  · subst z
    have hi : i < δ.length := by
      have := (List.getElem?_eq_some_iff.mp hs).1
      simpa using this
    rw [List.getElem?_set_self hi] at hs
    cases hs
    rw [List.getElem?_set_self (by rw [r.len]; exact hi)]
    exact ⟨x, rfl, h⟩
  · rw [List.getElem?_set_ne z] at hs
    rw [List.getElem?_set_ne z]
    exact r.sl j e hs
theorem RE.setU (r : RE K C σ δ v) (i : Nat) (x : Option V) : RE K C (σ.set i x) (δ.set i none) v := by
  refine ⟨r.le, r.sr, by simp [r.len], fun j e hs => ?_⟩
  by_cases z : i = j
  · subst z
    have hi : i < δ.length := by
      have := (List.getElem?_eq_some_iff.mp hs).1
      simpa using this
    rw [List.getElem?_set_self hi] at hs
    cases hs
  · rw [List.getElem?_set_ne z] at hs
    rw [List.getElem?_set_ne z]
    exact r.sl j e hs
end

/-! ### what is due of a result -/
def onX (K : PySem.W.Frag) (C : Cc) (σ : L2.St) (v : Vw) (e : Ex) (s : Sto) : Prop := ∀ cls dd v', Le v v' → SR K C.ct v' → v'.st = s → RepX K C.ct v' e cls dd → C.W cls dd σ v'.H
def on {α β : Type} (K : PySem.W.Frag) (C : Cc) (σ : L2.St) (v : Vw) (rel : α → β → Vw → Prop) (r : R α) (P : α → β → Vw → Prop) : Prop := match r with
  | .ok a s => ∀ b v', Le v v' → SR K C.ct v' → v'.st = s → rel a b v' → P a b v'
  | .exc e s => onX K C σ v e s
  | .stk => False
abbrev rE (K : PySem.W.Frag) (ct : String → Addr) : D → V → Vw → Prop := fun d x v => Rep K ct v.G v.m d x
abbrev rA (K : PySem.W.Frag) (ct : String → Addr) : List D → List V → Vw → Prop := fun d x v => RepL K ct v.G v.m d x
abbrev rB {α : Type} : α → α → Vw → Prop := fun a b _ => a = b
section
variable {α β γ ε : Type} {K : PySem.W.Frag} {C : Cc} {σ : L2.St} {v v' : Vw} {rel : α → β → Vw → Prop} {rel2 : γ → ε → Vw → Prop}
theorem on_step {r : R α} {P : α → β → Vw → Prop} (l : Le v v') (h : on K C σ v rel r P) : on K C σ v' rel r P := by
  cases r with
  | ok a s => exact fun b w l2 => h b w (l.trans l2)
  | exc e s => exact fun cls dd w l2 => h cls dd w (l.trans l2)
  | stk => exact h
theorem on_mono {r : R α} {P P' : α → β → Vw → Prop} (h : on K C σ v rel r P) (w : ∀ a b v', Le v v' → SR K C.ct v' → rel a b v' → P a b v' → P' a b v') : on K C σ v rel r P' := by
  cases r with
  | ok a s => exact fun b v' l sr e q => w a b v' l sr q (h b v' l sr e q)
  | exc e s => exact h
  | stk => exact h
/-- one after another -/
theorem on_bind {r : R α} {k : α → Sto → R γ} {P : γ → ε → Vw → Prop} (h : on K C σ v rel2 (r.bind k) P) : on K C σ v rel r fun a _ v1 => on K C σ v1 rel2 (k a v1.st) P := by
  cases r with
  | ok a s =>
    intro b v1 l sr e q
    subst e
    exact on_step l h
  | exc e s => exact h
  | stk => exact h
theorem on_self {a : α} {b : β} {P : α → β → Vw → Prop} (sr : SR K C.ct v) (h : on K C σ v rel (.ok a v.st) P) (r : rel a b v) : P a b v := h b v .refl sr rfl r
theorem on_ofO {o : Option α} {P : α → β → Vw → Prop} (h : on K C σ v rel (R.ofO o v.st) P) : ∃ a, o = some a ∧ ∀ b v', Le v v' → SR K C.ct v' → v'.st = v.st → rel a b v' → P a b v' := by
  cases o with
  | none => exact h.elim
  | some a => exact ⟨a, rfl, h⟩
end

abbrev E := Sl → Sto → R D
abbrev T := Sl → Sto → R Bool
abbrev As := Sl → Sto → R (List D)
def liftE (K : PySem.W.Frag) (C : Cc) (f : E) : TE := fun σ H Q => ∃ δ v, RE K C σ δ v ∧ v.H = H ∧ on K C σ v (rE K C.ct) (f δ v.st) fun _ x v' => Q x v'.H
def liftT (K : PySem.W.Frag) (C : Cc) (f : T) : TT := fun σ H Q => ∃ δ v, RE K C σ δ v ∧ v.H = H ∧ on K C σ v rB (f δ v.st) fun _ b v' => Q b v'.H
def liftA (K : PySem.W.Frag) (C : Cc) (f : As) : TA := fun σ H Q => ∃ δ v, RE K C σ δ v ∧ v.H = H ∧ on K C σ v (rA K C.ct) (f δ v.st) fun _ xs v' => Q xs v'.H
abbrev SE (X : Cx) (C : Cc) (e : Expr) (f : E) : Prop := PE X e (liftE X.K C f)
abbrev ST (X : Cx) (C : Cc) (e : Expr) (f : T) : Prop := PT X e (liftT X.K C f)
abbrev SA (X : Cx) (C : Cc) (es : List Expr) (f : As) : Prop := PA X es (liftA X.K C f)
theorem pe_weak {X : Cx} {e : Expr} {t t' : TE} (h : PE X e t) (w : ∀ σ H Q, t' σ H Q → t σ H Q) : PE X e t' := ⟨fun pins s σ H Q I z => h.run pins s σ H Q I (w σ H Q z)⟩
theorem pt_weak {X : Cx} {e : Expr} {t t' : TT} (h : PT X e t) (w : ∀ σ H Q, t' σ H Q → t σ H Q) : PT X e t' := ⟨fun pins s σ H Q I z => h.run pins s σ H Q I (w σ H Q z)⟩
theorem pw_weak {X : Cx} {e : Expr} {t t' : TT} (h : PW X e t) (w : ∀ σ H Q, t' σ H Q → t σ H Q) : PW X e t' := ⟨fun wh pins s σ H Q I z => h.run wh pins s σ H Q I (w σ H Q z)⟩
theorem pa_weak {X : Cx} {e : List Expr} {t t' : TA} (h : PA X e t) (w : ∀ σ H Q, t' σ H Q → t σ H Q) : PA X e t' := ⟨fun pos pins s σ H Q I z => h.run pos pins s σ H Q I (w σ H Q z)⟩

/-! ### names and constants -/
def eV (i : Nat) : E := fun δ s => match δ[i]? with
  | some (some d) => .ok d s
  | _ => .stk
def eC (d : D) : E := fun _ s => .ok d s
def eStk : E := fun _ _ => .stk
section
variable {X : Cx} {C : Cc} {pos : Pos}
theorem se_var (i : Nat) {x : Str} (hN : X.N[i]? = some x := by rfl) (hv : Vis X.env.scope x := by first | exact Or.inl rfl | exact Or.inr (Or.inl rfl) | exact Or.inr (Or.inr rfl)) (hd : (x == ("__debug__" : Str)) = false := by decide)
    (hcd : (x == ("__classdict__" : Str)) = false := by decide) : SE X C (.Name x pos) (eV i) :=
  pe_weak (pe_var hN hv hd hcd) fun σ H Q ⟨δ, v, re, eH, h⟩ => by
    subst eH
    unfold eV at h
    split at h
    · rename_i d e
      obtain ⟨x, ex, rx⟩ := re.sl i d e
      exact ⟨x, ex, on_self re.sr h rx⟩
    · exact h.elim
theorem se_const {e : Expr} {d : D} {x : V} (h : PE X e (fun _ H Q => Q x H)) (r : ∀ G m, Rep X.K C.ct G m d x) : SE X C e (eC d) :=
  pe_weak h fun σ H Q ⟨δ, v, re, eH, h⟩ => by subst eH; exact on_self re.sr h (r _ _)
theorem se_int {i : Int} {j : Nat} : SE X C (.Constant (.int i) j pos) (eC (.int i)) := se_const pe_int fun _ _ => .int i
theorem se_bl {b : Bool} {j : Nat} : SE X C (.Constant (.bool b) j pos) (eC (.bl b)) := se_const pe_bl fun _ _ => .bl b
theorem se_non {j : Nat} : SE X C (.Constant .none j pos) (eC .non) := se_const pe_non fun _ _ => .non
theorem se_str {x : Str} {j : Nat} : SE X C (.Constant (.str x) j pos) (eC (.str x)) := se_const pe_str fun _ _ => .str x
/-- a constant of the module -/
theorem se_glob {x : Str} {d : D} {v : V} {u : Value} (hg : Gl X x) (hm : X.mg x = some u) (r : RelV v u) (rd : ∀ G m, Rep X.K C.ct G m d v) (hd : (x == ("__debug__" : Str)) = false := by decide) : SE X C (.Name x pos) (eC d) := se_const (pe_glob hg hm r hd) rd
theorem se_never {e : Expr} : SE X C e eStk := ⟨fun pins s σ H Q I ⟨δ, v, re, eH, h⟩ => h.elim⟩
end

/-! ### what stands at the top of a datum, read in the heap as it is -/
inductive RepT (K : PySem.W.Frag) (ct : String → Addr) (v : Vw) : D → V → Prop
  | non : RepT K ct v .non .non
  | bl (b : Bool) : RepT K ct v (.bl b) (.bl b)
  | int (i : Int) : RepT K ct v (.int i) (.int i)
  | str (x : Str) : RepT K ct v (.str x) (.str x)
  | fn (s : String) : RepT K ct v (.fn s) (.ref (ct s))
  | ob {i : Nat} {a : Addr} : v.m i = some a → RepT K ct v (.ob i) (.ref a)
  | tup {a : Addr} {vs : List V} {ds : List D} : SqT K v.G a vs → RepL K ct v.G v.m ds vs → RepT K ct v (.tup ds) (.ref a)
  | lst {a : Addr} {vs : List V} {ds : List D} : SqL K v.H a vs → RepL K ct v.G v.m ds vs → RepT K ct v (.lst ds) (.ref a)
  | dct {a : Addr} {vs : List V} {ks : List Key} {ds : List D} : v.H a = some (.dK (ks.zip vs)) → ks.length = ds.length → RepL K ct v.G v.m ds vs → RepT K ct v (.dct ks ds) (.ref a)
  | ev {a : Addr} {c : String} {ks : List Str} {ds : List D} : Rep K ct v.G v.m (.ev c ks ds) (.ref a) → RepT K ct v (.ev c ks ds) (.ref a)
  | clo {a : Addr} {k : Clo} {ds : List D} : Rep K ct v.G v.m (.clo k ds) (.ref a) → RepT K ct v (.clo k ds) (.ref a)
def rsv (s : Sto) : D → D
  | .ob i => match s[i]? with
    | some (.lst xs) => .lst xs
    | some (.dK kvs) => .dct (kvs.map (·.1)) (kvs.map (·.2))
    | _ => .ob i
  | d => d
theorem zip_unzip {κ β : Type} : ∀ l : List (κ × β), (l.map (·.1)).zip (l.map (·.2)) = l
  | [] => rfl
  | x :: r => by simp [zip_unzip r]
theorem Rep.top {K : PySem.W.Frag} {ct : String → Addr} {v : Vw} {d : D} {x : V} (sr : SR K ct v) (r : Rep K ct v.G v.m d x) : RepT K ct v (rsv v.st d) x := by
  cases r with
  | non => exact .non
  | bl b => exact .bl b
  | int b => exact .int b
  | str b => exact .str b
  | fn s => exact .fn s
  | tup h r => exact .tup h r
  | lst h r => exact .lst (sr.sub.seq h) r
  | dct h l r => exact .dct (sr.sub _ _ h) l r
  | ev0 h => exact .ev (.ev0 h)
  | ev n h h2 l r => exact .ev (.ev n h h2 l r)
  | clo h1 h2 h3 h4 r => exact .clo (.clo h1 h2 h3 h4 r)
  | @ob _ _ i a e =>
    unfold rsv
    dsimp only
    split
    · rename_i xs h
      obtain ⟨a', e', _, vs, h2, r⟩ := sr.obj i _ h rfl
      rw [e] at e'
      cases e'
      exact .lst (SqL.of h2) r
    · rename_i kvs h
      obtain ⟨a', e', _, vs, h2, r⟩ := sr.obj i _ h rfl
      rw [e] at e'
      cases e'
      have k := r.keys
      refine .dct (vs := vs.map (·.2)) ?_ (by simp) r.vals
      rw [k, zip_unzip]
      exact h2
    · exact .ob e

/-! ### operators, by values -/
abbrev B2 := D → D → Option D
def rD (K : PySem.W.Frag) (ct : String → Addr) (g : B2) : R2 := fun x y H Q => ∃ v dx dy d, v.H = H ∧ SR K ct v ∧ g dx dy = some d ∧ RepT K ct v dx x ∧ RepT K ct v dy y ∧ ∀ z v', Le v v' → SR K ct v' → v'.st = v.st → Rep K ct v'.G v'.m d z → Q z v'.H
def eBin (g : B2) (a b : E) : E := fun δ s => (a δ s).bind fun x s1 => (b δ s1).bind fun y s2 => R.ofO (g (rsv s2 x) (rsv s2 y)) s2
section
variable {X : Cx} {C : Cc} {pos : Pos} {a b c : Expr} {fa fb fc : E} {g : B2}
theorem lift_bin {K : PySem.W.Frag} {σ : L2.St} {H : Hp} {Q : VK} (h : liftE K C (eBin g fa fb) σ H Q) : tOp (rD K C.ct g) (liftE K C fa) (liftE K C fb) σ H Q := by
  obtain ⟨δ, v, re, rfl, h⟩ := h
  refine ⟨δ, v, re, rfl, on_mono (on_bind h) fun d x v1 l1 s1 r1 h1 => ?_⟩
  refine ⟨δ, v1, re.step l1 s1, rfl, on_mono (on_bind h1) fun d2 x2 v2 l2 s2 r2 h2 => ?_⟩
  obtain ⟨z, e, h2⟩ := on_ofO h2
  exact ⟨v2, _, _, z, rfl, s2, e, (l2.rep r1).top s2, r2.top s2, h2⟩
theorem se_bin {op : Operator} (ho : OpR X (binaryOp op) (rD X.K C.ct g)) (ha : SE X C a fa) (hb : SE X C b fb) : SE X C (.BinOp a op b pos) (eBin g fa fb) :=
  pe_weak (pe_op ho ha hb) fun σ H Q h => lift_bin h
theorem se_cmp {op : CmpOp} (ho : OpR X (compareOp op) (rD X.K C.ct g)) (ha : SE X C a fa) (hb : SE X C b fb) (hm : behindInMarks op b = false := by first | exact nomark _ | rfl) : SE X C (.Compare a [op] [b] pos) (eBin g fa fb) :=
  pe_weak (pe_cmpR ho ha hb hm) fun σ H Q h => lift_bin h
/-- a value as a test: a truth -/
def tV (f : E) : T := fun δ s => (f δ s).bind fun d s1 => match d with
  | .bl b => .ok b s1
  | _ => .stk
theorem lift_test {K : PySem.W.Frag} {f : E} {σ : L2.St} {H : Hp} {Q : Bool → Hp → Prop} (h : liftT K C (tV f) σ H Q) : liftE K C f σ H fun v H' => ∃ k, v = .bl k ∧ Q k H' := by
  obtain ⟨δ, v, re, eH, h⟩ := h
  refine ⟨δ, v, re, eH, on_mono (on_bind h) fun d x v1 l1 s1 r1 h1 => ?_⟩
  cases r1 <;> first
    | exact h1.elim
    | exact ⟨_, rfl, on_self s1 h1 rfl⟩
theorem st_cmp {op : CmpOp} (ho : OpR X (compareOp op) (rD X.K C.ct g)) (ha : SE X C a fa) (hb : SE X C b fb) (hm : behindInMarks op b = false := by first | exact nomark _ | rfl) : ST X C (.Compare a [op] [b] pos) (tV (eBin g fa fb)) := by
  refine ⟨fun pins s σ H Q I h => ?_⟩
  refine (pt_cmpR ho ha hb hm).run pins s σ H Q I ?_
  exact lift_bin (Q := fun v H' => ∃ k, v = .bl k ∧ Q k H') (lift_test h)
theorem st_val {e : Expr} {f : E} (h : SE X C e f) (he : ∀ whole, isTrue e X.env whole = (do let v ← whole; standAt e.pos; holding [v] (truthy v)) := by intro _; rfl) : ST X C e (tV f) :=
  pt_weak (pt_val h he) fun σ H Q z => lift_test z
/-- two comparisons in a chain -/
def eChain (g g' : B2) (a b c : E) : E := fun δ s => (a δ s).bind fun x s1 => (b δ s1).bind fun y s2 => (R.ofO (g (rsv s2 x) (rsv s2 y)) s2).bind fun z s3 => match z with
  | .bl true => (c δ s3).bind fun w s4 => R.ofO (g' (rsv s4 y) (rsv s4 w)) s4
  | .bl false => .ok (.bl false) s3
  | _ => .stk
theorem lift_chain {K : PySem.W.Frag} {g' : B2} {σ : L2.St} {H : Hp} {Q : VK} (h : liftE K C (eChain g g' fa fb fc) σ H Q) : tChain (rD K C.ct g) (rD K C.ct g') (liftE K C fa) (liftE K C fb) (liftE K C fc) σ H Q := by
  obtain ⟨δ, v, re, rfl, h⟩ := h
  refine ⟨δ, v, re, rfl, on_mono (on_bind h) fun d x v1 l1 s1 r1 h1 => ?_⟩
  refine ⟨δ, v1, re.step l1 s1, rfl, on_mono (on_bind h1) fun d2 x2 v2 l2 s2 r2 h2 => ?_⟩
  have h3 := on_bind (rel := rE K C.ct) h2
  obtain ⟨z, e, h3⟩ := on_ofO h3
  refine ⟨v2, _, _, z, rfl, s2, e, (l2.rep r1).top s2, r2.top s2, fun x3 v3 l3 s3 e3 r3 => ?_⟩
  have h4 := h3 x3 v3 l3 s3 e3 r3
  cases r3 <;> first
    | exact h4.elim
    | skip
  rename_i k
  refine ⟨k, rfl, ?_⟩
  cases k with
  | true =>
    rw [if_pos rfl]
    refine ⟨δ, v3, ((re.step l1 s1).step l2 s2).step l3 s3, rfl, on_mono (on_bind h4) fun d4 x4 v4 l4 s4 r4 h5 => ?_⟩
    obtain ⟨z, e, h5⟩ := on_ofO h5
    exact ⟨v4, _, _, z, rfl, s4, e, ((l3.trans l4).rep r2).top s4, r4.top s4, h5⟩
  | false =>
    rw [if_neg Bool.false_ne_true]
    exact on_self s3 h4 (.bl false)
theorem se_chain {op op' : CmpOp} {g' : B2} (ho : OpR X (compareOp op) (rD X.K C.ct g)) (ho' : OpR X (compareOp op') (rD X.K C.ct g')) (ha : SE X C a fa) (hb : SE X C b fb) (hc : SE X C c fc)
    (hm : lastMarks [op, op'] [b, c] = false := by with_unfolding_all rfl) : SE X C (.Compare a [op, op'] [b, c] pos) (eChain g g' fa fb fc) :=
  pe_weak (pe_chain ho ho' ha hb hc hm) fun σ H Q h => lift_chain h
theorem st_chain {op op' : CmpOp} {g' : B2} (ho : OpR X (compareOp op) (rD X.K C.ct g)) (ho' : OpR X (compareOp op') (rD X.K C.ct g')) (ha : SE X C a fa) (hb : SE X C b fb) (hc : SE X C c fc)
    (hm : lastMarks [op, op'] [b, c] = false := by with_unfolding_all rfl) : ST X C (.Compare a [op, op'] [b, c] pos) (tV (eChain g g' fa fb fc)) := by
  refine ⟨fun pins s σ H Q I h => ?_⟩
  refine (pt_chain ho ho' ha hb hc hm).run pins s σ H Q I ?_
  exact lift_chain (Q := fun v H' => ∃ k, v = .bl k ∧ Q k H') (lift_test h)

/-! ### not, and, or -/
def tNt (f : T) : T := fun δ s => (f δ s).bind fun b s1 => .ok (!b) s1
def tAn (f g : T) : T := fun δ s => (f δ s).bind fun b s1 => if b = true then g δ s1 else .ok false s1
def tOrr (f g : T) : T := fun δ s => (f δ s).bind fun b s1 => if b = true then .ok true s1 else g δ s1
theorem st_not {ft : T} (h : ST X C a ft) : ST X C (.UnaryOp .Not a pos) (tNt ft) := pt_weak (pt_not h) fun σ H Q ⟨δ, v, re, eH, h⟩ =>
  ⟨δ, v, re, eH, on_mono (on_bind h) fun b k v1 l1 s1 e h1 => by cases e; exact on_self s1 h1 rfl⟩
theorem lift_and {K : PySem.W.Frag} {ft gt : T} {σ : L2.St} {H : Hp} {Q : Bool → Hp → Prop} (h : liftT K C (tAn ft gt) σ H Q) : tAnd (liftT K C ft) (liftT K C gt) σ H Q := by
  obtain ⟨δ, v, re, eH, h⟩ := h
  refine ⟨δ, v, re, eH, on_mono (on_bind h) fun b k v1 l1 s1 e h1 => ?_⟩
  cases e
  cases b with
  | true => exact ⟨δ, v1, re.step l1 s1, rfl, h1⟩
  | false => exact on_self s1 h1 rfl
theorem lift_or {K : PySem.W.Frag} {ft gt : T} {σ : L2.St} {H : Hp} {Q : Bool → Hp → Prop} (h : liftT K C (tOrr ft gt) σ H Q) : tOr (liftT K C ft) (liftT K C gt) σ H Q := by
  obtain ⟨δ, v, re, eH, h⟩ := h
  refine ⟨δ, v, re, eH, on_mono (on_bind h) fun b k v1 l1 s1 e h1 => ?_⟩
  cases e
  cases b with
  | true => exact on_self s1 h1 rfl
  | false => exact ⟨δ, v1, re.step l1 s1, rfl, h1⟩
end
/-- tests whose whole is theirs (and, or) -/
abbrev SW (X : Cx) (C : Cc) (e : Expr) (f : T) : Prop := PW X e (liftT X.K C f)
section
variable {X : Cx} {C : Cc} {pos : Pos} {a : Expr} {rest : List Expr} {ft gt : T}
theorem sw_and1 (ha : ST X C a ft) : SW X C (.BoolOp .And [a] pos) ft := pw_and1 ha
theorem sw_and {b : Expr} (ha : ST X C a ft) (hr : SW X C (.BoolOp .And (b :: rest) pos) gt) : SW X C (.BoolOp .And (a :: b :: rest) pos) (tAn ft gt) := pw_weak (pw_and ha hr) fun σ H Q h => lift_and h
theorem sw_or1 (ha : ST X C a ft) : SW X C (.BoolOp .Or [a] pos) ft := pw_or1 ha
theorem sw_or {b : Expr} (ha : ST X C a ft) (hr : SW X C (.BoolOp .Or (b :: rest) pos) gt) : SW X C (.BoolOp .Or (a :: b :: rest) pos) (tOrr ft gt) := pw_weak (pw_or ha hr) fun σ H Q h => lift_or h
end
/-! ### and, or, not as values (truths) -/
def eAn (a b : E) : E := fun δ s => (a δ s).bind fun x s1 => match x with
  | .bl true => b δ s1
  | .bl false => .ok (.bl false) s1
  | _ => .stk
def eOr (a b : E) : E := fun δ s => (a δ s).bind fun x s1 => match x with
  | .bl true => .ok (.bl true) s1
  | .bl false => b δ s1
  | _ => .stk
def eNt (a : E) : E := fun δ s => (a δ s).bind fun x s1 => match x with
  | .bl k => .ok (.bl !k) s1
  | _ => .stk
section
variable {X : Cx} {C : Cc} {pos : Pos} {a b c : Expr} {fa fb fc : E} {ft : T} {rest : List Expr}
theorem lift_anV {K : PySem.W.Frag} {σ : L2.St} {H : Hp} {Q : VK} (h : liftE K C (eAn fa fb) σ H Q) : tAndV (liftE K C fa) (liftE K C fb) σ H Q := by
  obtain ⟨δ, v, re, eH, h⟩ := h
  refine ⟨δ, v, re, eH, on_mono (on_bind h) fun d x v1 l1 s1 r1 h1 => ?_⟩
  cases r1 <;> first
    | exact h1.elim
    | skip
  rename_i k
  refine ⟨k, rfl, ?_⟩
  cases k with
  | true => exact ⟨δ, v1, re.step l1 s1, rfl, h1⟩
  | false => exact on_self s1 h1 (.bl false)
theorem lift_orV {K : PySem.W.Frag} {σ : L2.St} {H : Hp} {Q : VK} (h : liftE K C (eOr fa fb) σ H Q) : tOrV (liftE K C fa) (liftE K C fb) σ H Q := by
  obtain ⟨δ, v, re, eH, h⟩ := h
  refine ⟨δ, v, re, eH, on_mono (on_bind h) fun d x v1 l1 s1 r1 h1 => ?_⟩
  cases r1 <;> first
    | exact h1.elim
    | skip
  rename_i k
  refine ⟨k, rfl, ?_⟩
  cases k with
  | true => exact on_self s1 h1 (.bl true)
  | false => exact ⟨δ, v1, re.step l1 s1, rfl, h1⟩
theorem lift_nt {K : PySem.W.Frag} {σ : L2.St} {H : Hp} {Q : VK} (h : liftE K C (eNt fa) σ H Q) : tNotV (liftE K C fa) σ H Q := by
  obtain ⟨δ, v, re, eH, h⟩ := h
  refine ⟨δ, v, re, eH, on_mono (on_bind h) fun d x v1 l1 s1 r1 h1 => ?_⟩
  cases r1 <;> first
    | exact h1.elim
    | exact ⟨_, rfl, on_self s1 h1 (.bl _)⟩
theorem se_nt (ha : SE X C a fa) : SE X C (.UnaryOp .Not a pos) (eNt fa) := pe_weak (pe_not ha) fun σ H Q h => lift_nt h
theorem se_one {op : BoolOp} (ha : SE X C a fa) : SE X C (.BoolOp op [a] pos) fa := pe_one ha
theorem se_and (ha : SE X C a fa) (hb : SE X C (.BoolOp .And (b :: rest) pos) fb) : SE X C (.BoolOp .And (a :: b :: rest) pos) (eAn fa fb) := pe_weak (pe_and ha hb) fun σ H Q h => lift_anV h
theorem se_or (ha : SE X C a fa) (hb : SE X C (.BoolOp .Or (b :: rest) pos) fb) : SE X C (.BoolOp .Or (a :: b :: rest) pos) (eOr fa fb) := pe_weak (pe_or ha hb) fun σ H Q h => lift_orV h
/-- a if t else b -/
def eIf (t : T) (a b : E) : E := fun δ s => (t δ s).bind fun k s1 => if k = true then a δ s1 else b δ s1
theorem se_if (ht : ST X C c ft) (ha : SE X C a fa) (hb : SE X C b fb) : SE X C (.IfExp c a b pos) (eIf ft fa fb) := pe_weak (pe_ifExp ht ha hb) fun σ H Q ⟨δ, v, re, eH, h⟩ => by
  refine ⟨δ, v, re, eH, on_mono (on_bind h) fun b k v1 l1 s1 e h1 => ?_⟩
  cases e
  cases b with
  | true => exact ⟨δ, v1, re.step l1 s1, rfl, h1⟩
  | false => exact ⟨δ, v1, re.step l1 s1, rfl, h1⟩
end

/-! ### arguments, displays -/
def aNil : As := fun _ s => .ok [] s
def aCons (f : E) (r : As) : As := fun δ s => (f δ s).bind fun x s1 => (r δ s1).bind fun xs s2 => .ok (x :: xs) s2
def eTup (r : As) : E := fun δ s => (r δ s).bind fun xs s1 => if xs.length ≤ sizeLine then .ok (.tup xs) s1 else .stk
/-- a written list, frozen at once -/
def eLst (r : As) : E := fun δ s => (r δ s).bind fun xs s1 => if xs.length ≤ sizeLine then .ok (.lst xs) s1 else .stk
/-- a written list, a thing of the store -/
def eNew (r : As) : E := fun δ s => (r δ s).bind fun xs s1 => if xs.length ≤ sizeLine then .ok (.ob s1.length) (s1 ++ [.lst xs]) else .stk
section
variable {X : Cx} {C : Cc} {pos : Pos} {e : Expr} {es : List Expr} {f : E} {r : As}
theorem sa_nil : SA X C [] aNil := pa_weak pa_nil fun σ H Q ⟨δ, v, re, eH, h⟩ => by subst eH; exact on_self (b := []) re.sr h .nil
theorem sa_cons (ha : SE X C e f) (hr : SA X C es r) (hs : starEach (e :: es) X.env = (false, eval e X.env) :: starEach es X.env := by rfl) : SA X C (e :: es) (aCons f r) :=
  pa_weak (pa_cons ha hr hs) fun σ H Q ⟨δ, v, re, eH, h⟩ => ⟨δ, v, re, eH, on_mono (on_bind h) fun d x v1 l1 s1 r1 h1 =>
    ⟨δ, v1, re.step l1 s1, rfl, on_mono (on_bind h1) fun ds xs v2 l2 s2 r2 h2 => on_self (b := x :: xs) s2 h2 (.cons (l2.rep r1) r2)⟩⟩
theorem se_tup {k : Nat} (h : SA X C es r) : SE X C (.Tuple es k pos) (eTup r) := pe_weak (pe_tup h) fun σ H Q ⟨δ, v, re, eH, h⟩ =>
  ⟨δ, v, re, eH, on_mono (on_bind h) fun ds vs v1 l1 s1 r1 h1 => by
    have hl := r1.length
    split at h1
    · rename_i z
      refine ⟨by omega, fun p hp => ?_⟩
      obtain ⟨l2, s2⟩ := new_ok (o := .tup vs) s1 hp
      exact h1 (.ref p) _ l2 s2 rfl (.tup (SqT.of upd_same) (l2.repl r1))
    · exact h1.elim⟩
theorem se_lst (h : SA X C es r) : SE X C (.List es pos) (eLst r) := pe_weak (pe_lst h) fun σ H Q ⟨δ, v, re, eH, h⟩ =>
  ⟨δ, v, re, eH, on_mono (on_bind h) fun ds vs v1 l1 s1 r1 h1 => by
    have hl := r1.length
    split at h1
    · rename_i z
      refine ⟨by omega, fun p hp => ?_⟩
      obtain ⟨l2, s2⟩ := new_ok (o := .lst vs) s1 hp
      exact h1 (.ref p) _ l2 s2 rfl (.lst (SqL.of upd_same) (l2.repl r1))
    · exact h1.elim⟩
/-- a new list of the store at p -/
theorem newL_ok {K : PySem.W.Frag} {ct : String → Addr} {v : Vw} {p : Addr} {ds : List D} {vs : List V} (s : SR K ct v) (hp : v.H p = none) (r : RepL K ct v.G v.m ds vs) :
    Le v (v.alloc p (upd v.H p (.lst vs)) (.lst ds)) ∧ SR K ct (v.alloc p (upd v.H p (.lst vs)) (.lst ds)) :=
  alloc_ok s hp (same_new hp _) (fun C b fs q => by rw [upd_same] at q; cases q) ⟨vs, upd_same, r.mono (Same.refl _) (mset_grow (s.dom _ (Nat.le_refl _)))⟩
theorem se_new (h : SA X C es r) : SE X C (.List es pos) (eNew r) := pe_weak (pe_lst h) fun σ H Q ⟨δ, v, re, eH, h⟩ =>
  ⟨δ, v, re, eH, on_mono (on_bind h) fun ds vs v1 l1 s1 r1 h1 => by
    have hl := r1.length
    split at h1
    · rename_i z
      refine ⟨by omega, fun p hp => ?_⟩
      obtain ⟨l2, s2⟩ := newL_ok s1 hp r1
      exact h1 (.ref p) _ l2 s2 rfl (.ob mset_same)
    · exact h1.elim⟩
end
end Gs

/-! G3: operators, built-in functions, items and slices over data. -/
namespace Gs
open PySem L2

/-! ### data that == takes -/
mutual
def toPy : D → Option PyData
  | .non => some .none
  | .bl b => some (.bool b)
  | .int i => some (.int i)
  | .str x => some (.str x)
  | .fn _ => none
  | .dct _ _ => none
  | .ob _ => none
  | .ev _ _ _ => none
  | .clo _ _ => none
  | .tup xs => (toPyL xs).map .tuple
  | .lst xs => (toPyL xs).map .list
def toPyL : List D → Option (List PyData)
  | [] => some []
  | d :: ds => match toPy d, toPyL ds with
    | some p, some ps => some (p :: ps)
    | _, _ => none
end
mutual
theorem Rep.dp {K : PySem.W.Frag} {ct : String → Addr} {G H : Hp} {m : Nat → Option Addr} (sub : Same G H) : ∀ {d : D} {v : V} {p : PyData}, Rep K ct G m d v → toPy d = some p → Dp K H v p
  | _, _, _, .non, e => by simp only [toPy, Option.some.injEq] at e; subst e; exact .non
  | _, _, _, .bl b, e => by simp only [toPy, Option.some.injEq] at e; subst e; exact .bl b
  | _, _, _, .int i, e => by simp only [toPy, Option.some.injEq] at e; subst e; exact .int i
  | _, _, _, .str x, e => by simp only [toPy, Option.some.injEq] at e; subst e; exact .str x
  | _, _, _, .fn a, e => by simp only [toPy] at e; exact nomatch e
  | _, _, _, .ob _, e => by simp only [toPy] at e; exact nomatch e
  | _, _, _, .ev0 _, e => by simp only [toPy] at e; exact nomatch e
  | _, _, _, .ev _ _ _ _ _, e => by simp only [toPy] at e; exact nomatch e
  | _, _, _, .dct h l r, e => by simp only [toPy] at e; exact nomatch e
  | _, _, _, .clo _ _ _ _ _, e => by simp only [toPy] at e; exact nomatch e
  | .tup ds, _, _, .tup h r, e => by
    simp only [toPy] at e
    cases q : toPyL ds with
    | none => rw [q] at e; exact nomatch e
    | some ps =>
      rw [q] at e
      simp only [Option.map_some, Option.some.injEq] at e
      subst e
      exact .tup (sqt_mono sub h) (RepL.dp sub r q)
  | .lst ds, _, _, .lst h r, e => by
    simp only [toPy] at e
    cases q : toPyL ds with
    | none => rw [q] at e; exact nomatch e
    | some ps =>
      rw [q] at e
      simp only [Option.map_some, Option.some.injEq] at e
      subst e
      exact .lst (sub.seq h) (RepL.dp sub r q)
theorem RepL.dp {K : PySem.W.Frag} {ct : String → Addr} {G H : Hp} {m : Nat → Option Addr} (sub : Same G H) : ∀ {ds : List D} {vs : List V} {ps : List PyData}, RepL K ct G m ds vs → toPyL ds = some ps → DpAll K H vs ps
  | _, _, _, .nil, e => by simp only [toPyL, Option.some.injEq] at e; subst e; exact .nil
  | d :: ds, _, _, .cons h r, e => by
    simp only [toPyL] at e
    cases q : toPy d with
    | none => rw [q] at e; simp at e
    | some p =>
      cases q2 : toPyL ds with
      | none => rw [q, q2] at e; simp at e
      | some ps =>
        rw [q, q2] at e
        simp only [Option.some.injEq] at e
        subst e
        exact .cons (Rep.dp sub h q) (RepL.dp sub r q2)
end
theorem RepT.dp {K : PySem.W.Frag} {ct : String → Addr} {v : Vw} (sr : SR K ct v) {d : D} {x : V} {p : PyData} (r : RepT K ct v d x) (e : toPy d = some p) : Dp K v.H x p := by
  cases r with
  | non => exact (Rep.non (K := K) (ct := ct) (m := v.m)).dp sr.sub e
  | bl b => exact (Rep.bl (K := K) (ct := ct) (m := v.m) b).dp sr.sub e
  | int b => exact (Rep.int (K := K) (ct := ct) (m := v.m) b).dp sr.sub e
  | str b => exact (Rep.str (K := K) (ct := ct) (m := v.m) b).dp sr.sub e
  | fn s => simp only [toPy] at e; exact nomatch e
  | ob h => simp only [toPy] at e; exact nomatch e
  | ev h => simp only [toPy] at e; exact nomatch e
  | clo h => simp only [toPy] at e; exact nomatch e
  | dct h l r => simp only [toPy] at e; exact nomatch e
  | tup h r => exact (Rep.tup h r).dp sr.sub e
  | @lst a vs ds h r =>
    simp only [toPy] at e
    cases q : toPyL ds with
    | none => rw [q] at e; exact nomatch e
    | some ps =>
      rw [q] at e
      simp only [Option.map_some, Option.some.injEq] at e
      subst e
      exact .lst h (RepL.dp sr.sub r q)

/-! ### operators -/
def gAdd : B2
  | .int i, .int j => some (.int (i + j))
  | .str x, .str y => if x.length + y.length ≤ sizeLine then some (.str (x ++ y)) else none
  | .lst xs, .lst ys => if xs.length + ys.length ≤ sizeLine then some (.lst (xs ++ ys)) else none
  | .tup xs, .tup ys => if xs.length + ys.length ≤ sizeLine then some (.tup (xs ++ ys)) else none
  | _, _ => none
def gSub : B2
  | .int i, .int j => some (.int (i - j))
  | _, _ => none
instance {i j : Int} : Decidable (IntMulOk i j) := by unfold IntMulOk; infer_instance
/-- a text so often -/
def repS (x : Str) (j : Int) : Str := ⟨(List.replicate j.toNat x.cps.toList).flatten.toArray⟩
def gMul : B2
  | .int i, .int j => if IntMulOk i j then some (.int (i * j)) else none
  | .str x, .int j => if 0 ≤ j ∧ j ≤ 100000 ∧ x.length ≤ 1000 ∧ x.length * j.toNat ≤ 100000 then some (.str (repS x j)) else none
  | _, _ => none
def gDiv : B2
  | .int i, .int j => if 0 < j ∧ j.natAbs.log2 < 9000 then some (.int (i / j)) else none
  | _, _ => none
def gMod : B2
  | .int i, .int j => if 0 < j then some (.int (i % j)) else none
  | _, _ => none
def gPow : B2
  | .int i, .int j => if 0 ≤ j ∧ (Builtin.Int.intBits i : Int) * j ≤ 2 ^ 27 then some (.int (i ^ j.toNat)) else none
  | _, _ => none
def gShl : B2
  | .int i, .int j => if 0 ≤ j ∧ (Builtin.Int.intBits i : Int) + j ≤ 2 ^ 27 then some (.int (i * 2 ^ j.toNat)) else none
  | _, _ => none
def gShr : B2
  | .int i, .int j => if 0 ≤ j then some (.int (i / 2 ^ j.toNat)) else none
  | _, _ => none
def gLt : B2
  | .int i, .int j => some (.bl (decide (i < j)))
  | .str x, .str y => some (.bl (decide (x.cps.toList < y.cps.toList)))
  | _, _ => none
def gLe : B2
  | .int i, .int j => some (.bl (decide (i ≤ j)))
  | _, _ => none
def gGt : B2
  | .int i, .int j => some (.bl (decide (j < i)))
  | _, _ => none
def gGe : B2
  | .int i, .int j => some (.bl (decide (j ≤ i)))
  | _, _ => none
def eqPy (x y : D) : Option Bool := match toPy x, toPy y with
  | some p, some q => if SeqAt.shaped p && SeqAt.shaped q then some (PyData.eqv p q) else none
  | _, _ => none
def eqO : D → D → Option Bool
  | .int i, .int j => some (decide (i = j))
  | .str x, .str y => some (decide (x = y))
  | .bl x, .bl y => some (decide (x = y))
  | .non, .non => some true
  | .non, .str _ => some false
  | .str _, .non => some false
  | .int _, .str _ => some false
  | .str _, .int _ => some false
  | .non, .int _ => some false
  | .int _, .non => some false
  | x, y => eqPy x y
def gEq : B2 := fun x y => (eqO x y).map .bl
def gNe : B2 := fun x y => (eqO x y).map fun b => .bl !b
def gIsN : B2
  | x, .non => some (.bl (match x with | .non => true | _ => false))
  | _, _ => none
def gNotN : B2
  | x, .non => some (.bl (match x with | .non => false | _ => true))
  | _, _ => none

section
variable {X : Cx} {ct : String → Addr}
theorem op_none {f : Value → Value → Sem Value} {r : R2} : OpR X f r → OpR X f r := id
theorem o_add : OpR X (binaryOp .Add) (rD X.K ct gAdd) := by
  intro pins s σ H x y v u Q I rx ry h
  obtain ⟨v0, dx, dy, d, rfl, sr, e, r1, r2, h⟩ := h
  cases r1 with
  | int i =>
    cases r2 <;> simp only [gAdd, Option.some.injEq, reduceCtorEq] at e
    subst e
    exact op_add pins s σ _ _ _ v u Q I rx ry ⟨_, _, rfl, rfl, h _ v0 .refl sr rfl (.int _)⟩
  | str z =>
    cases r2 <;> simp only [gAdd, reduceCtorEq] at e
    split at e
    · rename_i hz
      simp only [Option.some.injEq] at e
      subst e
      exact op_add_str pins s σ _ _ _ v u Q I rx ry ⟨_, _, rfl, rfl, hz, h _ v0 .refl sr rfl (.str _)⟩
    · exact nomatch e
  | non => cases r2 <;> simp only [gAdd, reduceCtorEq] at e
  | bl b => cases r2 <;> simp only [gAdd, reduceCtorEq] at e
  | fn a => cases r2 <;> simp only [gAdd, reduceCtorEq] at e
  | ob a => cases r2 <;> simp only [gAdd, reduceCtorEq] at e
  | ev a => cases r2 <;> simp only [gAdd, reduceCtorEq] at e
  | clo a => cases r2 <;> simp only [gAdd, reduceCtorEq] at e
  | dct p l q => cases r2 <;> simp only [gAdd, reduceCtorEq] at e
  | tup p q =>
    cases r2 <;> simp only [gAdd, reduceCtorEq] at e
    rename_i p2 q2
    split at e
    · rename_i hz
      simp only [Option.some.injEq] at e
      subst e
      have l1 := q.length
      have l2 := q2.length
      refine op_catA pins s σ _ _ _ v u Q I rx ry ⟨_, _, _, _, rfl, rfl, sqt_mono sr.sub p, sqt_mono sr.sub p2, by omega, fun z => ?_, fun z1 z2 => ?_, fun z1 z2 c hc => ?_⟩
      · subst z
        cases q
        exact h _ v0 .refl sr rfl (.tup p2 q2)
      · subst z2
        cases q2
        rw [List.append_nil] at h
        exact h _ v0 .refl sr rfl (.tup p q)
      · obtain ⟨l, s2⟩ := new_ok (o := .tup _) sr hc
        exact h _ _ l s2 rfl (.tup (SqT.of upd_same) (RepL.append (l.repl q) (l.repl q2)))
    · exact nomatch e
  | lst p q =>
    cases r2 <;> simp only [gAdd, reduceCtorEq] at e
    rename_i a1 vs1 ds1 a2 vs2 ds2 p2 q2
    split at e
    · rename_i hz
      simp only [Option.some.injEq] at e
      subst e
      cases rx
      cases ry
      have l1 := q.length
      have l2 := q2.length
      obtain ⟨is1, t1, ⟨⟨c1, d1, b1, s1⟩, n1, ho1, hc1, hd1, hs1⟩, z1⟩ := I.list (p)
      obtain ⟨is2, t2, ⟨⟨c2, d2, b2, s2⟩, n2, ho2, hc2, hd2, hs2⟩, z2⟩ := I.list (p2)
      simp only at hc1 hd1 hs1 hc2 hd2 hs2
      subst hc1 hd1 hs1 hc2 hd2 hs2
      have m1 := t1.length
      have m2 := t2.length
      refine concat_meets ⟨_, ho1, rfl⟩ ⟨_, ho2, rfl⟩ noFill_list_add seq_list_add PySem.F.slot_list_add PySem.F.entry_list_add (PySem.F.args_list_add_2 _ _) (PyProof.Rows.list_addW _ _ is1.toArray is2.toArray n1 n2 _ _ s1 s2 (by simp only [List.size_toArray]; omega)) ⟨ho1, ho2, ?_⟩
      rw [show is1.toArray ++ is2.toArray = (is1 ++ is2).toArray by simp]
      have hf := I.fresh
      obtain ⟨l, s2⟩ := new_ok (o := .lst (vs1 ++ vs2)) sr hf
      exact ⟨.ref _, _, I.lnew (t' := s.toks) (t1.append t2) (by simp only [List.length_append]; omega), rfl, h _ _ l s2 rfl (.lst (SqL.of upd_same) (RepL.append (l.repl q) (l.repl q2)))⟩
    · exact nomatch e
theorem o_sub : OpR X (binaryOp .Sub) (rD X.K ct gSub) := by
  intro pins s σ H x y v u Q I rx ry h
  obtain ⟨v0, dx, dy, d, rfl, sr, e, r1, r2, h⟩ := h
  unfold gSub at e
  split at e
  case h_2 => exact nomatch e
  cases r1
  cases r2
  simp only [Option.some.injEq] at e
  subst e
  exact op_sub pins s σ _ _ _ v u Q I rx ry ⟨_, _, rfl, rfl, h _ v0 .refl sr rfl (.int _)⟩
theorem rep_flat (x : Array Nat) : ∀ (n : Nat) (acc : Array Nat), (List.replicate n x).foldl (· ++ ·) acc = (acc.toList ++ (List.replicate n x.toList).flatten).toArray
  | 0, acc => by simp
  | n + 1, acc => by
    rw [List.replicate_succ, List.foldl_cons, rep_flat x n, List.replicate_succ, List.flatten_cons]
    simp
theorem rep_len (x : Str) (j : Int) : (repS x j).length = x.length * j.toNat := by
  unfold repS
  show (List.replicate j.toNat x.cps.toList).flatten.toArray.size = x.cps.size * j.toNat
  rw [List.size_toArray, List.length_flatten, List.map_replicate, Array.length_toList]
  generalize x.cps.size = a
  generalize j.toNat = n
  induction n with
  | zero => simp
  | succ n ih => rw [List.replicate_succ, List.sum_cons, ih, Nat.mul_succ, Nat.add_comm]
theorem rep_one (x : Str) : repS x 1 = x := by
  unfold repS
  simp
theorem rep_zero (x : Str) : repS x 0 = Str.empty := by
  unfold repS
  rfl
theorem rep_nil (x : Str) (j : Int) (h : x.length = 0) : repS x j = x := by
  have e : x.cps.toList = [] := List.length_eq_zero_iff.mp (by simpa [Str.length] using h)
  have e2 : x = ⟨[].toArray⟩ := by rw [← e]
  unfold repS
  rw [e]
  have : (List.replicate j.toNat ([] : List Nat)).flatten = [] := by simp
  rw [this, ← e2]
theorem o_mul : OpR X (binaryOp .Mult) (rD X.K ct gMul) := by
  intro pins s σ H x y v u Q I rx ry h
  obtain ⟨v0, dx, dy, d, rfl, sr, e, r1, r2, h⟩ := h
  cases r1 <;> cases r2 <;> simp only [gMul, reduceCtorEq] at e
  · split at e
    · rename_i hc
      simp only [Option.some.injEq] at e
      subst e
      obtain ⟨t, rfl⟩ := rx
      obtain ⟨t', rfl⟩ := ry
      exact PyProof.Rows.mul_int ⟨.int _, _, I.tok _, ⟨_, rfl⟩, h _ v0 .refl sr rfl (.int _)⟩ hc
    · exact nomatch e
  · rename_i z j
    split at e
    · rename_i hc
      simp only [Option.some.injEq] at e
      subst e
      obtain ⟨t, rfl⟩ := rx
      obtain ⟨t', rfl⟩ := ry
      obtain ⟨h0, h1, h2, h3⟩ := hc
      have hs : (100000 : Nat) ≤ sizeLine := by decide
      have c1 : ∀ t', EP X pins σ Q (Value.str (repS z j) t') { s with toks := s.toks + 1 } := fun t' => ⟨.str _, _, I.tok _, ⟨_, rfl⟩, h _ v0 .refl sr rfl (.str _)⟩
      refine PySem.P.mul_str (by rw [decide_eq_false (by omega), decide_eq_false (by omega)]; rfl) (fun a b => ?_) (fun a b => ?_) ?_
      · have : (1000 : Int) ≤ (2 ^ 63 - 1) / j := Int.le_ediv_of_mul_le (by omega) (by omega)
        omega
      · unfold Builtin.Str.tooLong
        exact decide_eq_false (by omega)
      · by_cases a : j < 1
        · rw [if_pos a]
          have : j = 0 := by omega
          subst this
          have c1 := c1 s.toks
          rw [rep_zero] at c1
          exact ⟨by decide, c1⟩
        · rw [if_neg a]
          by_cases b : (j == 1 || z.length == 0) = true
          · rw [if_pos b]
            have e : repS z j = z := by
              rw [Bool.or_eq_true] at b
              rcases b with b | b
              · have : j = 1 := by simpa using b
                subst this
                exact rep_one z
              · exact rep_nil z j (by simpa using b)
            have g : EP X pins σ Q (Value.str z t) s := ⟨.str z, _, I, ⟨_, rfl⟩, by
              have := h (.str (repS z j)) v0 .refl sr rfl (.str _)
              rwa [e] at this⟩
            exact g
          · rw [if_neg b]
            have e : (⟨(List.replicate j.toNat z.cps).foldl (· ++ ·) #[]⟩ : Str) = repS z j := by
              unfold repS
              rw [rep_flat]
              simp
            rw [e]
            exact ⟨by rw [rep_len]; omega, c1 s.toks⟩
    · exact nomatch e
theorem o_div : OpR X (binaryOp .FloorDiv) (rD X.K ct gDiv) := by
  intro pins s σ H x y v u Q I rx ry h
  obtain ⟨v0, dx, dy, d, rfl, sr, e, r1, r2, h⟩ := h
  unfold gDiv at e
  split at e
  case h_2 => exact nomatch e
  cases r1
  cases r2
  split at e
  · rename_i hc
    simp only [Option.some.injEq] at e
    subst e
    exact op_fdivW pins s σ _ _ _ v u Q I rx ry ⟨_, _, rfl, rfl, hc, h _ v0 .refl sr rfl (.int _)⟩
  · exact nomatch e
theorem o_mod : OpR X (binaryOp .Mod) (rD X.K ct gMod) := by
  intro pins s σ H x y v u Q I rx ry h
  obtain ⟨v0, dx, dy, d, rfl, sr, e, r1, r2, h⟩ := h
  unfold gMod at e
  split at e
  case h_2 => exact nomatch e
  cases r1
  cases r2
  split at e
  · rename_i hc
    simp only [Option.some.injEq] at e
    subst e
    exact op_mod pins s σ _ _ _ v u Q I rx ry ⟨_, _, rfl, rfl, hc, h _ v0 .refl sr rfl (.int _)⟩
  · exact nomatch e
theorem op_powW : OpR X (binaryOp .Pow) (rI (fun i j => 0 ≤ j ∧ (Builtin.Int.intBits i : Int) * j ≤ 2 ^ 27) fun i j => .int (i ^ j.toNat)) := opI fun _ _ _ _ _ _ _ hc q => PyProof.Rows.pow_int hc.1 hc.2 q
theorem o_pow : OpR X (binaryOp .Pow) (rD X.K ct gPow) := by
  intro pins s σ H x y v u Q I rx ry h
  obtain ⟨v0, dx, dy, d, rfl, sr, e, r1, r2, h⟩ := h
  unfold gPow at e
  split at e
  case h_2 => exact nomatch e
  cases r1
  cases r2
  split at e
  · rename_i hc
    simp only [Option.some.injEq] at e
    subst e
    exact op_powW pins s σ _ _ _ v u Q I rx ry ⟨_, _, rfl, rfl, hc, h _ v0 .refl sr rfl (.int _)⟩
  · exact nomatch e
theorem o_shl : OpR X (binaryOp .LShift) (rD X.K ct gShl) := by
  intro pins s σ H x y v u Q I rx ry h
  obtain ⟨v0, dx, dy, d, rfl, sr, e, r1, r2, h⟩ := h
  unfold gShl at e
  split at e
  case h_2 => exact nomatch e
  cases r1
  cases r2
  split at e
  · rename_i hc
    simp only [Option.some.injEq] at e
    subst e
    exact op_shlW pins s σ _ _ _ v u Q I rx ry ⟨_, _, rfl, rfl, hc, h _ v0 .refl sr rfl (.int _)⟩
  · exact nomatch e
theorem o_shr : OpR X (binaryOp .RShift) (rD X.K ct gShr) := by
  intro pins s σ H x y v u Q I rx ry h
  obtain ⟨v0, dx, dy, d, rfl, sr, e, r1, r2, h⟩ := h
  unfold gShr at e
  split at e
  case h_2 => exact nomatch e
  cases r1
  cases r2
  split at e
  · rename_i hc
    simp only [Option.some.injEq] at e
    subst e
    exact op_shr pins s σ _ _ _ v u Q I rx ry ⟨_, _, rfl, rfl, hc, h _ v0 .refl sr rfl (.int _)⟩
  · exact nomatch e
theorem o_lt : OpR X (compareOp .Lt) (rD X.K ct gLt) := by
  intro pins s σ H x y v u Q I rx ry h
  obtain ⟨v0, dx, dy, d, rfl, sr, e, r1, r2, h⟩ := h
  unfold gLt at e
  split at e
  case h_3 => exact nomatch e
  all_goals cases r1
  all_goals cases r2
  all_goals simp only [Option.some.injEq] at e
  · subst e
    exact op_lt pins s σ _ _ _ v u Q I rx ry ⟨_, _, rfl, rfl, h _ v0 .refl sr rfl (.bl _)⟩
  · subst e
    exact op_lt_str pins s σ _ _ _ v u Q I rx ry ⟨_, _, rfl, rfl, h _ v0 .refl sr rfl (.bl _)⟩
theorem o_le : OpR X (compareOp .LtE) (rD X.K ct gLe) := by
  intro pins s σ H x y v u Q I rx ry h
  obtain ⟨v0, dx, dy, d, rfl, sr, e, r1, r2, h⟩ := h
  unfold gLe at e
  split at e
  case h_2 => exact nomatch e
  cases r1
  cases r2
  simp only [Option.some.injEq] at e
  subst e
  exact op_le pins s σ _ _ _ v u Q I rx ry ⟨_, _, rfl, rfl, h _ v0 .refl sr rfl (.bl _)⟩
theorem o_gt : OpR X (compareOp .Gt) (rD X.K ct gGt) := by
  intro pins s σ H x y v u Q I rx ry h
  obtain ⟨v0, dx, dy, d, rfl, sr, e, r1, r2, h⟩ := h
  unfold gGt at e
  split at e
  case h_2 => exact nomatch e
  cases r1
  cases r2
  simp only [Option.some.injEq] at e
  subst e
  exact op_gt pins s σ _ _ _ v u Q I rx ry ⟨_, _, rfl, rfl, h _ v0 .refl sr rfl (.bl _)⟩
theorem o_ge : OpR X (compareOp .GtE) (rD X.K ct gGe) := by
  intro pins s σ H x y v u Q I rx ry h
  obtain ⟨v0, dx, dy, d, rfl, sr, e, r1, r2, h⟩ := h
  unfold gGe at e
  split at e
  case h_2 => exact nomatch e
  cases r1
  cases r2
  simp only [Option.some.injEq] at e
  subst e
  exact op_ge pins s σ _ _ _ v u Q I rx ry ⟨_, _, rfl, rfl, h _ v0 .refl sr rfl (.bl _)⟩
/-- both sides of == and != -/
theorem eq_core {K : PySem.W.Frag} {ct : String → Addr} {v : Vw} (sr : SR K ct v) {dx dy : D} {x y : V} {b : Bool} (r1 : RepT K ct v dx x) (r2 : RepT K ct v dy y) (e : eqO dx dy = some b) :
    (scal x y = true ∧ decide (x = y) = b) ∨ ∃ p q, Dp K v.H x p ∧ Dp K v.H y q ∧ SeqAt.shaped p = true ∧ SeqAt.shaped q = true ∧ PyData.eqv p q = b := by
  have gen : eqPy dx dy = some b → ∃ p q, Dp K v.H x p ∧ Dp K v.H y q ∧ SeqAt.shaped p = true ∧ SeqAt.shaped q = true ∧ PyData.eqv p q = b := fun e => by
    unfold eqPy at e
    cases q1 : toPy dx with
    | none => rw [q1] at e; exact nomatch e
    | some p =>
      cases q2 : toPy dy with
      | none => rw [q1, q2] at e; exact nomatch e
      | some q =>
        rw [q1, q2] at e
        simp only at e
        split at e
        · rename_i hs
          rw [Bool.and_eq_true] at hs
          exact ⟨p, q, r1.dp sr q1, r2.dp sr q2, hs.1, hs.2, Option.some.inj e⟩
        · exact nomatch e
  unfold eqO at e
  split at e
  case h_11 => exact .inr (gen e)
  all_goals cases r1
  all_goals cases r2
  all_goals (refine .inl ⟨rfl, ?_⟩; simp only [Option.some.injEq] at e; rw [← e]; simp)
theorem o_eq (hu : X.A.units + 64 < cLine) : OpR X (compareOp .Eq) (rD X.K ct gEq) := by
  intro pins s σ H x y v u Q I rx ry h
  obtain ⟨v0, dx, dy, d, rfl, sr, e, r1, r2, h⟩ := h
  unfold gEq at e
  cases q : eqO dx dy with
  | none => rw [q] at e; exact nomatch e
  | some b =>
    rw [q] at e
    have e' : d = .bl b := (Option.some.inj e).symm
    subst e'
    rcases eq_core sr r1 r2 q with ⟨h1, h2⟩ | ⟨p, q, d1, d2, s1, s2, eb⟩
    · exact op_eq pins s σ _ x y v u Q I rx ry ⟨h1, by rw [h2]; exact h _ v0 .refl sr rfl (.bl b)⟩
    · exact op_eqD hu pins s σ _ x y v u Q I rx ry ⟨p, q, d1, d2, s1, s2, by rw [eb]; exact h _ v0 .refl sr rfl (.bl b)⟩
theorem o_ne (hu : X.A.units + 64 < cLine) : OpR X (compareOp .NotEq) (rD X.K ct gNe) := by
  intro pins s σ H x y v u Q I rx ry h
  obtain ⟨v0, dx, dy, d, rfl, sr, e, r1, r2, h⟩ := h
  unfold gNe at e
  cases q : eqO dx dy with
  | none => rw [q] at e; exact nomatch e
  | some b =>
    rw [q] at e
    have e' : d = .bl !b := (Option.some.inj e).symm
    subst e'
    rcases eq_core sr r1 r2 q with ⟨h1, h2⟩ | ⟨p, q, d1, d2, s1, s2, eb⟩
    · exact op_ne pins s σ _ x y v u Q I rx ry ⟨h1, by rw [h2]; exact h _ v0 .refl sr rfl (.bl _)⟩
    · exact op_neD hu pins s σ _ x y v u Q I rx ry ⟨p, q, d1, d2, s1, s2, by rw [eb]; exact h _ v0 .refl sr rfl (.bl _)⟩
theorem o_isN : OpR X (compareOp .Is) (rD X.K ct gIsN) := by
  intro pins s σ H x y v u Q I rx ry h
  obtain ⟨v0, dx, dy, d, rfl, sr, e, r1, r2, h⟩ := h
  cases r2 <;> simp only [gIsN, Option.some.injEq, reduceCtorEq] at e
  subst e
  cases r1 <;> exact op_isN pins s σ _ _ _ v u Q I rx ry ⟨rfl, h _ v0 .refl sr rfl (.bl _)⟩
theorem o_notN : OpR X (compareOp .IsNot) (rD X.K ct gNotN) := by
  intro pins s σ H x y v u Q I rx ry h
  obtain ⟨v0, dx, dy, d, rfl, sr, e, r1, r2, h⟩ := h
  cases r2 <;> simp only [gNotN, Option.some.injEq, reduceCtorEq] at e
  subst e
  cases r1 <;> exact op_notN pins s σ _ _ _ v u Q I rx ry ⟨rfl, h _ v0 .refl sr rfl (.bl _)⟩
end

/-! ### one operand -/
abbrev B1 := D → Option D
def rD1 (K : PySem.W.Frag) (ct : String → Addr) (g : B1) : V → Hp → VK → Prop := fun x H Q => ∃ v dx d, v.H = H ∧ SR K ct v ∧ g dx = some d ∧ RepT K ct v dx x ∧ ∀ z v', Le v v' → SR K ct v' → v'.st = v.st → Rep K ct v'.G v'.m d z → Q z v'.H
def eUn (g : B1) (a : E) : E := fun δ s => (a δ s).bind fun x s1 => R.ofO (g (rsv s1 x)) s1
def gNeg : B1
  | .int i => some (.int (-i))
  | _ => none
section
variable {X : Cx} {C : Cc} {pos : Pos} {a : Expr} {fa : E} {g : B1}
theorem lift_un {K : PySem.W.Frag} {σ : L2.St} {H : Hp} {Q : VK} (h : liftE K C (eUn g fa) σ H Q) : tUn (rD1 K C.ct g) (liftE K C fa) σ H Q := by
  obtain ⟨δ, v, re, rfl, h⟩ := h
  refine ⟨δ, v, re, rfl, on_mono (on_bind h) fun d x v1 l1 s1 r1 h1 => ?_⟩
  obtain ⟨z, e, h1⟩ := on_ofO h1
  exact ⟨v1, _, z, rfl, s1, e, r1.top s1, h1⟩
theorem se_un {op : UnaryOp} (ho : UnR X (unaryOp op) (rD1 X.K C.ct g)) (ha : SE X C a fa) : SE X C (.UnaryOp op a pos) (eUn g fa) := pe_weak (pe_un ho ha) fun σ H Q h => lift_un h
theorem o_neg {ct : String → Addr} : UnR X (unaryOp .USub) (rD1 X.K ct gNeg) := by
  intro pins s σ H x v Q I rx h
  obtain ⟨v0, dx, d, rfl, sr, e, r1, h⟩ := h
  cases r1 <;> simp only [gNeg, Option.some.injEq, reduceCtorEq] at e
  subst e
  exact un_neg pins s σ _ _ v Q I rx ⟨_, rfl, h _ v0 .refl sr rfl (.int _)⟩
end

/-! ### built-in functions of values -/
abbrev BA := List D → Option D
inductive RepTL (K : PySem.W.Frag) (ct : String → Addr) (v : Vw) : List D → List V → Prop
  | nil : RepTL K ct v [] []
  | cons {d : D} {x : V} {ds : List D} {xs : List V} : RepT K ct v d x → RepTL K ct v ds xs → RepTL K ct v (d :: ds) (x :: xs)
theorem RepL.top {K : PySem.W.Frag} {ct : String → Addr} {v : Vw} (sr : SR K ct v) : ∀ {ds : List D} {xs : List V}, RepL K ct v.G v.m ds xs → RepTL K ct v (ds.map (rsv v.st)) xs
  | _, _, .nil => .nil
  | _, _, .cons h r => .cons (h.top sr) (RepL.top sr r)
def rDA (K : PySem.W.Frag) (ct : String → Addr) (g : BA) : List V → Hp → VK → Prop := fun xs H Q => ∃ v ds d, v.H = H ∧ SR K ct v ∧ g ds = some d ∧ RepTL K ct v ds xs ∧ ∀ z v', Le v v' → SR K ct v' → v'.st = v.st → Rep K ct v'.G v'.m d z → Q z v'.H
def eFn (g : BA) (a : As) : E := fun δ s => (a δ s).bind fun xs s1 => R.ofO (g (xs.map (rsv s1))) s1
section
variable {X : Cx} {C : Cc} {pos p : Pos} {x : Str} {id T : String} {e : Expr} {es : List Expr} {fa : As} {g : BA}
theorem lift_fn {K : PySem.W.Frag} {σ : L2.St} {H : Hp} {Q : VK} (h : liftE K C (eFn g fa) σ H Q) : tCB (rDA K C.ct g) (liftA K C fa) σ H Q := by
  obtain ⟨δ, v, re, rfl, h⟩ := h
  refine ⟨δ, v, re, rfl, on_mono (on_bind h) fun d x v1 l1 s1 r1 h1 => ?_⟩
  obtain ⟨z, e, h1⟩ := on_ofO h1
  exact ⟨v1, _, z, rfl, s1, e, r1.top s1, h1⟩
theorem se_callB (hc : CallR X (.builtin id) (rDA X.K C.ct g)) (hg : Gl X x) (hm : X.mg x = none) (hv : bootBuiltins x = some (.builtin id)) (ha : SA X C (e :: es) fa) (hn : x ≠ "__name__" := by decide) (hdb : (x == ("__debug__" : Str)) = false := by decide)
    (he : starEach (e :: es) X.env = (false, eval e X.env) :: starEach es X.env := by rfl) (hpl : (backTo pos (starEach es X.env)).any (·.1) = false := by rfl) : SE X C (.Call (.Name x p) (e :: es) [] pos) (eFn g fa) :=
  pe_weak (pe_callB hc hg hm hv ha hn hdb he hpl) fun σ H Q h => lift_fn h
theorem se_callT (hc : CallR X (.type T) (rDA X.K C.ct g)) (hg : Gl X x) (hm : X.mg x = none) (hv : bootBuiltins x = some (.type T)) (ha : SA X C (e :: es) fa) (hn : x ≠ "__name__" := by decide) (hdb : (x == ("__debug__" : Str)) = false := by decide)
    (he : starEach (e :: es) X.env = (false, eval e X.env) :: starEach es X.env := by rfl) (hpl : (backTo pos (starEach es X.env)).any (·.1) = false := by rfl) : SE X C (.Call (.Name x p) (e :: es) [] pos) (eFn g fa) :=
  pe_weak (pe_callTy hc hg hm hv ha hn hdb he hpl) fun σ H Q h => lift_fn h

def gLen : BA
  | [.lst xs] => some (.int xs.length)
  | [.tup xs] => some (.int xs.length)
  | [.str x] => if x.length ≤ sizeLine then some (.int x.length) else none
  | _ => none
def gMin2 : BA
  | [.int i, .int j] => some (.int (if j < i then j else i))
  | _ => none
def gMax2 : BA
  | [.int i, .int j] => some (.int (if j > i then j else i))
  | _ => none
def gAbs : BA
  | [.int i] => some (.int (if i < 0 then -i else i))
  | _ => none
def gInt : BA
  | [.int i] => some (.int i)
  | [.bl k] => some (.int (if k then 1 else 0))
  | [.str a] => match PySem.intText? a with
    | some n => if a.length ≤ 640 then some (.int n) else none
    | none => none
  | _ => none
def gStr : BA
  | [.int i] => if i.natAbs.log2 < 1920 then some (.str (toString i)) else none
  | _ => none
/-- a text's signs -/
def signs (x : Str) : List D := x.cps.toList.map fun c => .str ⟨#[c]⟩
def signsV (x : Str) : List V := x.cps.toList.map fun c => .str ⟨#[c]⟩
theorem RepL.signs {K : PySem.W.Frag} {ct : String → Addr} {G : Hp} {m : Nat → Option Addr} (x : Str) : RepL K ct G m (Gs.signs x) (signsV x) := by
  unfold Gs.signs signsV
  generalize x.cps.toList = l
  induction l with
  | nil => exact .nil
  | cons c r ih => exact .cons (.str _) ih
theorem call_list_text (hc : X.calm = true) : CallR X (.type "list") (fun xs H Q => ∃ z : Str, xs = [.str z] ∧ z.length ≤ sizeLine ∧ ∀ l, H l = none → Q (.ref l) (upd H l (.lst (signsV z)))) := by
  intro pins s σ H xs us Q I r h
  obtain ⟨z, e, hz, q⟩ := h
  subst e
  obtain ⟨u, eu, rx⟩ := vals1 r
  subst eu
  obtain ⟨t, rfl⟩ := rx
  refine call_list_str (I.ok.hd hc) z t (hn := hz) fun h' tk acc' c' hkeep hS hacc => ?_
  refine ⟨.ref s.heap.objs.size, upd H s.heap.objs.size (.lst (signsV z)), I.laid hkeep (Nat.le_refl _) (show ObjOk X.prog X.w _ _ _ (.lst (signsV z)) from ⟨?_, acc'.toList, c', ?_, ?_⟩), rfl, q _ (I.hok.fresh (Nat.le_refl _))⟩
  · simpa [signsV, Str.length] using hz
  · refine vals_of_at (by simp [signsV, hacc.1]) fun j x w h1 h2 => ?_
    obtain ⟨c, u, hky, hi⟩ := hacc.2 j w (by rw [← Array.getElem?_toList]; exact h2)
    have e2 : (signsV z)[j]? = some (V.str ⟨#[c]⟩) := by
      unfold signsV
      rw [List.getElem?_map, Array.getElem?_toList, hky]
      rfl
    rw [e2] at h1
    cases h1
    exact ⟨u, hi⟩
  · rw [Array.toArray_toList]; exact hS
def gList : BA
  | [.lst xs] => some (.lst xs)
  | [.tup xs] => some (.lst xs)
  | [.str x] => if x.length ≤ sizeLine then some (.lst (signs x)) else none
  | _ => none
def gTuple : BA
  | [.lst xs] => some (.tup xs)
  | [.tup xs] => some (.tup xs)
  | _ => none
def gDivmod : BA
  | [.int i, .int j] => if 0 < j ∧ Builtin.divisionGoesByPylong i j = false then some (.tup [.int (i / j), .int (i % j)]) else none
  | _ => none
def intsOf : List D → Option (List Int)
  | [] => some []
  | .int i :: r => (intsOf r).map (i :: ·)
  | _ => none
def blsOf : List D → Option (List Bool)
  | [] => some []
  | .bl i :: r => (blsOf r).map (i :: ·)
  | _ => none
def strsOf : List D → Option (List Str)
  | [] => some []
  | .str i :: r => (strsOf r).map (i :: ·)
  | _ => none
theorem intsOf_eq : ∀ {ds : List D} {ns : List Int}, intsOf ds = some ns → ds = ns.map D.int
  | [], _, e => by simp only [intsOf, Option.some.injEq] at e; subst e; rfl
  | .int i :: r, ns, e => by
    simp only [intsOf] at e
    cases q : intsOf r with
    | none => rw [q] at e; exact nomatch e
    | some ms => rw [q] at e; simp only [Option.map_some, Option.some.injEq] at e; subst e; rw [intsOf_eq q]; rfl
  | .non :: _, _, e => nomatch e
  | .bl _ :: _, _, e => nomatch e
  | .str _ :: _, _, e => nomatch e
  | .tup _ :: _, _, e => nomatch e
  | .lst _ :: _, _, e => nomatch e
  | .fn _ :: _, _, e => nomatch e
  | .ob _ :: _, _, e => nomatch e
  | .ev _ _ _ :: _, _, e => nomatch e
  | .dct _ _ :: _, _, e => nomatch e
theorem blsOf_eq : ∀ {ds : List D} {ns : List Bool}, blsOf ds = some ns → ds = ns.map D.bl
  | [], _, e => by simp only [blsOf, Option.some.injEq] at e; subst e; rfl
  | .bl i :: r, ns, e => by
    simp only [blsOf] at e
    cases q : blsOf r with
    | none => rw [q] at e; exact nomatch e
    | some ms => rw [q] at e; simp only [Option.map_some, Option.some.injEq] at e; subst e; rw [blsOf_eq q]; rfl
  | .non :: _, _, e => nomatch e
  | .int _ :: _, _, e => nomatch e
  | .str _ :: _, _, e => nomatch e
  | .tup _ :: _, _, e => nomatch e
  | .lst _ :: _, _, e => nomatch e
  | .fn _ :: _, _, e => nomatch e
  | .ob _ :: _, _, e => nomatch e
  | .ev _ _ _ :: _, _, e => nomatch e
  | .dct _ _ :: _, _, e => nomatch e
theorem strsOf_eq : ∀ {ds : List D} {ns : List Str}, strsOf ds = some ns → ds = ns.map D.str
  | [], _, e => by simp only [strsOf, Option.some.injEq] at e; subst e; rfl
  | .str i :: r, ns, e => by
    simp only [strsOf] at e
    cases q : strsOf r with
    | none => rw [q] at e; exact nomatch e
    | some ms => rw [q] at e; simp only [Option.map_some, Option.some.injEq] at e; subst e; rw [strsOf_eq q]; rfl
  | .non :: _, _, e => nomatch e
  | .int _ :: _, _, e => nomatch e
  | .bl _ :: _, _, e => nomatch e
  | .tup _ :: _, _, e => nomatch e
  | .lst _ :: _, _, e => nomatch e
  | .fn _ :: _, _, e => nomatch e
  | .ob _ :: _, _, e => nomatch e
  | .ev _ _ _ :: _, _, e => nomatch e
  | .dct _ _ :: _, _, e => nomatch e
theorem intsOf_map : ∀ ns : List Int, intsOf (ns.map D.int) = some ns
  | [] => rfl
  | n :: r => by simp only [List.map_cons, intsOf, intsOf_map r, Option.map_some]
theorem blsOf_map : ∀ ns : List Bool, blsOf (ns.map D.bl) = some ns
  | [] => rfl
  | n :: r => by simp only [List.map_cons, blsOf, blsOf_map r, Option.map_some]
theorem strsOf_map : ∀ ns : List Str, strsOf (ns.map D.str) = some ns
  | [] => rfl
  | n :: r => by simp only [List.map_cons, strsOf, strsOf_map r, Option.map_some]
def gSum : BA
  | [.lst xs] => (intsOf xs).map fun ns => .int ns.sum
  | _ => none
def gAll : BA
  | [.lst xs] => (blsOf xs).map fun ns => .bl (ns.all fun b => b)
  | _ => none
def gAny : BA
  | [.lst xs] => (blsOf xs).map fun ns => .bl (ns.any fun b => b)
  | _ => none
def gMin : BA
  | [.lst xs] => (intsOf xs).bind fun ns => ns.min?.map .int
  | _ => none
def gMax : BA
  | [.lst xs] => (intsOf xs).bind fun ns => ns.max?.map .int
  | _ => none
theorem b_len {ct : String → Addr} : CallR X (.builtin "len") (rDA X.K ct gLen) := by
  intro pins s σ H xs us Q I r h
  obtain ⟨v0, ds, d, rfl, sr, e, rl, h⟩ := h
  unfold gLen at e
  split at e
  · cases rl with
    | cons r1 r2 =>
      cases r2
      cases r1 with
      | lst p q =>
        simp only [Option.some.injEq] at e
        subst e
        refine call_len_seq pins s σ _ _ us Q I r ⟨_, _, rfl, .inl (p), ?_⟩
        rw [← q.length]
        exact h _ v0 .refl sr rfl (.int _)
  · cases rl with
    | cons r1 r2 =>
      cases r2
      cases r1 with
      | tup p q =>
        simp only [Option.some.injEq] at e
        subst e
        refine call_len_seq pins s σ _ _ us Q I r ⟨_, _, rfl, .inr (sqt_mono sr.sub p), ?_⟩
        rw [← q.length]
        exact h _ v0 .refl sr rfl (.int _)
  · cases rl with
    | cons r1 r2 =>
      cases r2
      cases r1
      split at e
      · rename_i hz
        simp only [Option.some.injEq] at e
        subst e
        exact call_len_str pins s σ _ _ us Q I r ⟨_, rfl, hz, h _ v0 .refl sr rfl (.int _)⟩
      · exact nomatch e
  · exact nomatch e
theorem b_min2 {ct : String → Addr} (hc : X.calm = true) : CallR X (.builtin "min") (rDA X.K ct gMin2) := by
  intro pins s σ H xs us Q I r h
  obtain ⟨v0, ds, d, rfl, sr, e, rl, h⟩ := h
  unfold gMin2 at e
  split at e
  · cases rl with
    | cons r1 r2 =>
      cases r2 with
      | cons r2 r3 =>
        cases r1; cases r2; cases r3
        simp only [Option.some.injEq] at e
        subst e
        exact call_min2 hc pins s σ _ _ us Q I r ⟨_, _, rfl, h _ v0 .refl sr rfl (.int _)⟩
  · exact nomatch e
theorem b_max2 {ct : String → Addr} (hc : X.calm = true) : CallR X (.builtin "max") (rDA X.K ct gMax2) := by
  intro pins s σ H xs us Q I r h
  obtain ⟨v0, ds, d, rfl, sr, e, rl, h⟩ := h
  unfold gMax2 at e
  split at e
  · cases rl with
    | cons r1 r2 =>
      cases r2 with
      | cons r2 r3 =>
        cases r1; cases r2; cases r3
        simp only [Option.some.injEq] at e
        subst e
        exact call_max2 hc pins s σ _ _ us Q I r ⟨_, _, rfl, h _ v0 .refl sr rfl (.int _)⟩
  · exact nomatch e
theorem b_abs {ct : String → Addr} : CallR X (.builtin "abs") (rDA X.K ct gAbs) := by
  intro pins s σ H xs us Q I r h
  obtain ⟨v0, ds, d, rfl, sr, e, rl, h⟩ := h
  unfold gAbs at e
  split at e
  · cases rl with
    | cons r1 r2 =>
      cases r1; cases r2
      simp only [Option.some.injEq] at e
      subst e
      exact call_abs pins s σ _ _ us Q I r ⟨_, rfl, h _ v0 .refl sr rfl (.int _)⟩
  · exact nomatch e
theorem b_int {ct : String → Addr} : CallR X (.type "int") (rDA X.K ct gInt) := by
  intro pins s σ H xs us Q I r h
  obtain ⟨v0, ds, d, rfl, sr, e, rl, h⟩ := h
  unfold gInt at e
  split at e
  · cases rl with
    | cons r1 r2 =>
      cases r1; cases r2
      simp only [Option.some.injEq] at e
      subst e
      exact call_int1 pins s σ _ _ us Q I r (.inl ⟨_, rfl, h _ v0 .refl sr rfl (.int _)⟩)
  · cases rl with
    | cons r1 r2 =>
      cases r1; cases r2
      simp only [Option.some.injEq] at e
      subst e
      exact call_int1 pins s σ _ _ us Q I r (.inr ⟨_, rfl, h _ v0 .refl sr rfl (.int _)⟩)
  · cases rl with
    | cons r1 r2 =>
      cases r1; cases r2
      split at e
      · rename_i n hn
        split at e
        · rename_i hz
          simp only [Option.some.injEq] at e
          subst e
          exact call_int_str pins s σ _ _ us Q I r ⟨_, n, rfl, hn, hz, h _ v0 .refl sr rfl (.int _)⟩
        · exact nomatch e
      · exact nomatch e
  · exact nomatch e
theorem b_str {ct : String → Addr} : CallR X (.type "str") (rDA X.K ct gStr) := by
  intro pins s σ H xs us Q I r h
  obtain ⟨v0, ds, d, rfl, sr, e, rl, h⟩ := h
  unfold gStr at e
  split at e
  · cases rl with
    | cons r1 r2 =>
      cases r1; cases r2
      split at e
      · rename_i hz
        simp only [Option.some.injEq] at e
        subst e
        exact call_str_int pins s σ _ _ us Q I r ⟨_, rfl, hz, h _ v0 .refl sr rfl (.str _)⟩
      · exact nomatch e
  · exact nomatch e
theorem b_list {ct : String → Addr} (hc : X.calm = true) : CallR X (.type "list") (rDA X.K ct gList) := by
  intro pins s σ H xs us Q I r h
  obtain ⟨v0, ds, d, rfl, sr, e, rl, h⟩ := h
  unfold gList at e
  split at e
  · cases rl with
    | cons r1 r2 =>
      cases r2
      cases r1 with
      | lst p q =>
        simp only [Option.some.injEq] at e
        subst e
        exact call_list_of pins s σ _ _ us Q I r ⟨_, _, rfl, .inl (p), fun c hc => let ⟨l, s2⟩ := new_ok (o := .lst _) sr hc; h _ _ l s2 rfl (.lst (SqL.of upd_same) (l.repl q))⟩
  · cases rl with
    | cons r1 r2 =>
      cases r2
      cases r1 with
      | tup p q =>
        simp only [Option.some.injEq] at e
        subst e
        exact call_list_of pins s σ _ _ us Q I r ⟨_, _, rfl, .inr (sqt_mono sr.sub p), fun c hc => let ⟨l, s2⟩ := new_ok (o := .lst _) sr hc; h _ _ l s2 rfl (.lst (SqL.of upd_same) (l.repl q))⟩
  · rename_i z
    cases rl with
    | cons r1 r2 =>
      cases r2
      cases r1
      split at e
      · rename_i hz
        simp only [Option.some.injEq] at e
        subst e
        exact call_list_text hc pins s σ _ _ us Q I r ⟨z, rfl, hz, fun c hc => let ⟨l, s2⟩ := new_ok (o := .lst (signsV z)) sr hc; h _ _ l s2 rfl (.lst (SqL.of upd_same) (RepL.signs z))⟩
      · exact nomatch e
  · exact nomatch e
theorem b_tuple {ct : String → Addr} : CallR X (.type "tuple") (rDA X.K ct gTuple) := by
  intro pins s σ H xs us Q I r h
  obtain ⟨v0, ds, d, rfl, sr, e, rl, h⟩ := h
  unfold gTuple at e
  split at e
  · cases rl with
    | cons r1 r2 =>
      cases r2
      cases r1 with
      | lst p q =>
        simp only [Option.some.injEq] at e
        subst e
        exact call_tuple_of pins s σ _ _ us Q I r ⟨_, _, rfl, .inl ⟨p, fun c hc => let ⟨l, s2⟩ := new_ok (o := .tup _) sr hc; h _ _ l s2 rfl (.tup (SqT.of upd_same) (l.repl q))⟩⟩
  · cases rl with
    | cons r1 r2 =>
      cases r2
      cases r1 with
      | tup p q =>
        simp only [Option.some.injEq] at e
        subst e
        exact call_tuple_of pins s σ _ _ us Q I r ⟨_, _, rfl, .inr ⟨sqt_mono sr.sub p, h _ v0 .refl sr rfl (.tup p q)⟩⟩
  · exact nomatch e
theorem b_divmod {ct : String → Addr} : CallR X (.builtin "divmod") (rDA X.K ct gDivmod) := by
  intro pins s σ H xs us Q I r h
  obtain ⟨v0, ds, d, rfl, sr, e, rl, h⟩ := h
  unfold gDivmod at e
  split at e
  · cases rl with
    | cons r1 r2 =>
      cases r2 with
      | cons r2 r3 =>
        cases r1; cases r2; cases r3
        split at e
        · rename_i hz
          simp only [Option.some.injEq] at e
          subst e
          exact call_divmodW pins s σ _ _ us Q I r ⟨_, _, rfl, hz, fun c hc => let ⟨l, s2⟩ := new_ok (o := .tup _) sr hc; h _ _ l s2 rfl (.tup (SqT.of upd_same) (.cons (.int _) (.cons (.int _) .nil)))⟩
        · exact nomatch e
  · exact nomatch e
theorem b_sum {ct : String → Addr} (hc : X.calm = true) : CallR X (.builtin "sum") (rDA X.K ct gSum) := by
  intro pins s σ H xs us Q I r h
  obtain ⟨v0, ds, d, rfl, sr, e, rl, h⟩ := h
  unfold gSum at e
  split at e
  · rename_i ys
    cases q1 : intsOf ys with
    | none => rw [q1] at e; exact nomatch e
    | some ns =>
      rw [q1] at e
      simp only [Option.map_some, Option.some.injEq] at e
      subst e
      have e2 := intsOf_eq q1
      subst e2
      cases rl with
      | cons r1 r2 =>
        cases r2
        cases r1 with
        | lst p q =>
          have e3 := RepL.of_ints q
          subst e3
          exact cr_sum hc pins s σ _ _ us Q I r ⟨_, ns, rfl, p, h _ v0 .refl sr rfl (.int _)⟩
  · exact nomatch e
theorem b_all {ct : String → Addr} (hc : X.calm = true) : CallR X (.builtin "all") (rDA X.K ct gAll) := by
  intro pins s σ H xs us Q I r h
  obtain ⟨v0, ds, d, rfl, sr, e, rl, h⟩ := h
  unfold gAll at e
  split at e
  · rename_i ys
    cases q1 : blsOf ys with
    | none => rw [q1] at e; exact nomatch e
    | some ns =>
      rw [q1] at e
      simp only [Option.map_some, Option.some.injEq] at e
      subst e
      have e2 := blsOf_eq q1
      subst e2
      cases rl with
      | cons r1 r2 =>
        cases r2
        cases r1 with
        | lst p q =>
          have e3 := RepL.of_bls q
          subst e3
          exact cr_all hc pins s σ _ _ us Q I r ⟨_, ns, rfl, p, h _ v0 .refl sr rfl (.bl _)⟩
  · exact nomatch e
theorem b_any {ct : String → Addr} (hc : X.calm = true) : CallR X (.builtin "any") (rDA X.K ct gAny) := by
  intro pins s σ H xs us Q I r h
  obtain ⟨v0, ds, d, rfl, sr, e, rl, h⟩ := h
  unfold gAny at e
  split at e
  · rename_i ys
    cases q1 : blsOf ys with
    | none => rw [q1] at e; exact nomatch e
    | some ns =>
      rw [q1] at e
      simp only [Option.map_some, Option.some.injEq] at e
      subst e
      have e2 := blsOf_eq q1
      subst e2
      cases rl with
      | cons r1 r2 =>
        cases r2
        cases r1 with
        | lst p q =>
          have e3 := RepL.of_bls q
          subst e3
          exact cr_any hc pins s σ _ _ us Q I r ⟨_, ns, rfl, p, h _ v0 .refl sr rfl (.bl _)⟩
  · exact nomatch e
end
/-! ### [e, ..] * n -/
def repD (xs : List D) (n : Nat) : List D := (List.replicate n xs).flatten
theorem RepL.rep {K : PySem.W.Frag} {ct : String → Addr} {G : Hp} {m : Nat → Option Addr} {ds : List D} {vs : List V} (r : RepL K ct G m ds vs) : ∀ n : Nat, RepL K ct G m (repD ds n) (List.replicate n vs).flatten
  | 0 => .nil
  | n + 1 => by
    unfold repD
    rw [List.replicate_succ, List.replicate_succ, List.flatten_cons, List.flatten_cons]
    exact r.append (RepL.rep r n)
/-- [e, ..] * n: the list, frozen (b = false) or a thing of the store -/
def eRep (keep : Bool) (r : As) (b : E) : E := fun δ s => (r δ s).bind fun xs s1 => if xs.length ≤ sizeLine then ((b δ s1).bind fun y s2 => match y with
  | .int k => if -(2 ^ 63) ≤ k ∧ k < 2 ^ 63 ∧ xs.length * k.toNat ≤ sizeLine then (if keep = true then .ok (.ob s2.length) (s2 ++ [.lst (repD xs k.toNat)]) else .ok (.lst (repD xs k.toNat)) s2) else .stk
  | _ => .stk) else .stk
theorem se_rep {X : Cx} {C : Cc} {pos p2 : Pos} {es : List Expr} {b : Expr} {r : As} {fb : E} (keep : Bool) (h : SA X C es r) (hb : SE X C b fb) : SE X C (.BinOp (.List es p2) .Mult b pos) (eRep keep r fb) :=
  pe_weak (pe_op op_rep (pe_lst h) hb) fun σ H Q ⟨δ, v, re, eH, h⟩ => ⟨δ, v, re, eH, on_mono (on_bind h) fun ds vs v1 l1 s1 r1 h1 => by
    have hl := r1.length
    split at h1
    · rename_i z
      refine ⟨by omega, fun p hp => ?_⟩
      obtain ⟨l2, s2⟩ := more_ok s1 (same_new hp (.lst vs))
      refine ⟨δ, _, (re.step l1 s1).step l2 s2, rfl, on_mono (on_bind (on_step l2 h1)) fun y x v3 l3 s3 r3 h3 => ?_⟩
      cases r3 <;> first
        | exact h3.elim
        | skip
      rename_i k
      simp only at h3
      split at h3
      · rename_i hz
        have hH : v3.H p = some (.lst vs) := l3.h p _ upd_same fun q => by
          obtain ⟨i, o, a, e, l, em, q⟩ := q
          obtain ⟨_, w, hw, _⟩ := s1.obj_ne e l em
          rcases q with rfl | ⟨C, fs, q⟩
          · rw [hp] at hw
            cases hw
          · have q' : upd v1.H p (.lst vs) a = some (.ins C p fs) := q
            rw [upd_ne (ne_of_none hw hp)] at q'
            obtain ⟨d1, _⟩ := s1.dx e l em q'
            rw [hp] at d1
            cases d1
        refine ⟨p, k, vs, rfl, rfl, hH, hz.1, hz.2.1, by rw [← hl]; exact hz.2.2, fun q hq => ?_⟩
        have r4 := (l2.trans l3).repl r1
        split at h3
        · obtain ⟨l5, s5⟩ := newL_ok (ds := repD ds k.toNat) s3 hq (r4.rep k.toNat)
          exact h3 (.ref q) _ l5 s5 rfl (.ob mset_same)
        · obtain ⟨l5, s5⟩ := new_ok (o := .lst (List.replicate k.toNat vs).flatten) s3 hq
          exact h3 (.ref q) _ l5 s5 rfl (.lst (SqL.of upd_same) (l5.repl (r4.rep k.toNat)))
      · exact h3.elim
    · exact h1.elim⟩
end Gs

/-! G4: items, slices, isinstance, methods of texts. -/
namespace Gs
open PySem L2

/-! ### items -/
theorem RepL.atI {K : PySem.W.Frag} {ct : String → Addr} {G : Hp} {m : Nat → Option Addr} {ds : List D} {vs : List V} {i : Int} {d : D} (r : RepL K ct G m ds vs) (e : L2.atI ds i = some d) : ∃ v, L2.atI vs i = some v ∧ Rep K ct G m d v := by
  unfold L2.atI at e ⊢
  rw [r.length] at e
  cases q : ixN vs.length i with
  | none => rw [q] at e; exact nomatch e
  | some j => rw [q] at e; exact r.get e
def gIx : B2
  | .lst xs, .int i => atI xs i
  | .tup xs, .int i => atI xs i
  | .str z, .int i => if z.length ≤ sizeLine then (atI z.cps.toList i).map fun c => .str ⟨#[c]⟩ else none
  | _, _ => none
section
variable {X : Cx} {C : Cc} {pos p2 : Pos} {a b : Expr} {fa fb : E}
theorem x_ix {ct : String → Addr} : IxR X (rD X.K ct gIx) := by
  intro value slice pins s σ H x y v u Q I rx ry h hs
  obtain ⟨v0, dx, dy, d, rfl, sr, e, r1, r2, h⟩ := h
  cases r1 with
  | lst p q =>
    cases r2 <;> simp only [gIx, reduceCtorEq] at e
    obtain ⟨v', e1, r3⟩ := q.atI e
    exact ix_list value slice pins s σ _ _ _ v u Q I rx ry ⟨_, _, _, _, rfl, rfl, p, e1, h _ v0 .refl sr rfl r3⟩ hs
  | tup p q =>
    cases r2 <;> simp only [gIx, reduceCtorEq] at e
    obtain ⟨v', e1, r3⟩ := q.atI e
    exact ix_tup value slice pins s σ _ _ _ v u Q I rx ry ⟨_, _, _, _, rfl, rfl, sqt_mono sr.sub p, e1, h _ v0 .refl sr rfl r3⟩ hs
  | str z =>
    cases r2 <;> simp only [gIx, reduceCtorEq] at e
    split at e
    · rename_i hz
      cases q : atI z.cps.toList _ with
      | none => rw [q] at e; exact nomatch e
      | some c =>
        rw [q] at e
        simp only [Option.map_some, Option.some.injEq] at e
        subst e
        exact ix_str value slice pins s σ _ _ _ v u Q I rx ry ⟨_, _, c, rfl, rfl, hz, q, h _ v0 .refl sr rfl (.str _)⟩ hs
    · exact nomatch e
  | non => cases r2 <;> simp only [gIx, reduceCtorEq] at e
  | bl b => cases r2 <;> simp only [gIx, reduceCtorEq] at e
  | int b => cases r2 <;> simp only [gIx, reduceCtorEq] at e
  | fn a => cases r2 <;> simp only [gIx, reduceCtorEq] at e
  | ob a => cases r2 <;> simp only [gIx, reduceCtorEq] at e
  | ev a => cases r2 <;> simp only [gIx, reduceCtorEq] at e
  | clo a => cases r2 <;> simp only [gIx, reduceCtorEq] at e
  | dct p l q => cases r2 <;> simp only [gIx, reduceCtorEq] at e
theorem se_ix (ha : SE X C a fa) (hb : SE X C b fb) (hs : PlainIx b := by intro _ _; rfl) : SE X C (.Subscript a b pos) (eBin gIx fa fb) := pe_weak (pe_ix x_ix ha hb hs) fun σ H Q h => lift_bin h

/-! ### slices -/
abbrev Os := Sl → Sto → R (Option Int)
def liftO (K : PySem.W.Frag) (C : Cc) (f : Os) : TO := fun σ H Q => ∃ δ v, RE K C σ δ v ∧ v.H = H ∧ on K C σ v rB (f δ v.st) fun _ b v' => Q b v'.H
abbrev SO (X : Cx) (C : Cc) (e : Option Expr) (f : Os) : Prop := PO X e (liftO X.K C f)
theorem po_weak {X : Cx} {e : Option Expr} {t t' : TO} (h : PO X e t) (w : ∀ σ H Q, t' σ H Q → t σ H Q) : PO X e t' := ⟨fun pins s σ H Q I z => h.run pins s σ H Q I (w σ H Q z)⟩
def oNone : Os := fun _ s => .ok none s
def oSome (f : E) : Os := fun δ s => (f δ s).bind fun d s1 => match d with
  | .int i => .ok (some i) s1
  | _ => .stk
theorem so_none : SO X C none oNone := po_weak po_none fun σ H Q ⟨δ, v, re, eH, h⟩ => by subst eH; exact on_self re.sr h rfl
theorem so_some (ha : SE X C a fa) : SO X C (some a) (oSome fa) := po_weak (po_some ha) fun σ H Q ⟨δ, v, re, eH, h⟩ =>
  ⟨δ, v, re, eH, on_mono (on_bind h) fun d x v1 l1 s1 r1 h1 => by
    cases r1 <;> first
      | exact h1.elim
      | exact ⟨_, rfl, on_self s1 h1 rfl⟩⟩
def cutD (xs : List D) (lo hi : Option Int) : List D := (xs.drop (HT.sIx xs.length 0 lo)).take (HT.sIx xs.length xs.length hi - HT.sIx xs.length 0 lo)
theorem RepL.cut {K : PySem.W.Frag} {ct : String → Addr} {G : Hp} {m : Nat → Option Addr} {ds : List D} {vs : List V} (r : RepL K ct G m ds vs) (lo hi : Option Int) : RepL K ct G m (cutD ds lo hi) (cutV vs lo hi) := by
  unfold cutD cutV
  rw [r.length]
  exact (r.drop _).take _
def gSl : D → Option Int → Option Int → Option D
  | .lst xs, lo, hi => some (.lst (cutD xs lo hi))
  | .tup xs, lo, hi => some (.tup (cutD xs lo hi))
  | .str z, lo, hi => if z.length ≤ sizeLine then some (.str (cutS z lo hi)) else none
  | _, _, _ => none
def rDS (K : PySem.W.Frag) (ct : String → Addr) (g : D → Option Int → Option Int → Option D) : V → Option Int → Option Int → Hp → VK → Prop := fun x lo hi H Q => ∃ v dx d, v.H = H ∧ SR K ct v ∧ g dx lo hi = some d ∧ RepT K ct v dx x ∧ ∀ z v', Le v v' → SR K ct v' → v'.st = v.st → Rep K ct v'.G v'.m d z → Q z v'.H
theorem s_sl {ct : String → Addr} : SlR X (rDS X.K ct gSl) := by
  intro pins s σ H x v vl vu lo hi sl Q I rx hs pl pu h
  obtain ⟨v0, dx, d, rfl, sr, e, r1, h⟩ := h
  cases r1 with
  | lst p q =>
    simp only [gSl, Option.some.injEq] at e
    subst e
    exact sl_list pins s σ _ _ v vl vu lo hi sl Q I rx hs pl pu ⟨_, _, rfl, p, fun c hc => let ⟨l, s2⟩ := new_ok (o := .lst _) sr hc; h _ _ l s2 rfl (.lst (SqL.of upd_same) ((q.cut lo hi).mono l.g l.m))⟩
  | @tup c0 vs0 ds0 p q =>
    simp only [gSl, Option.some.injEq] at e
    subst e
    refine sl_tupA pins s σ _ _ v vl vu lo hi sl Q I rx hs pl pu ⟨_, _, rfl, sqt_mono sr.sub p, fun z => ?_, fun _ c hc => let ⟨l, s2⟩ := new_ok (o := .tup _) sr hc; h _ _ l s2 rfl (.tup (SqT.of upd_same) (l.repl (q.cut lo hi)))⟩
    refine h _ v0 .refl sr rfl (.tup p ?_)
    have e2 := q.cut lo hi
    have e3 : cutV vs0 lo hi = vs0 := by
      unfold cutV
      rw [z.1, z.2, Nat.sub_zero, List.drop_zero, List.take_length]
    rw [e3] at e2
    exact e2
  | str z =>
    simp only [gSl] at e
    split at e
    · rename_i hz
      simp only [Option.some.injEq] at e
      subst e
      exact sl_str pins s σ _ _ v vl vu lo hi sl Q I rx hs pl pu ⟨_, rfl, hz, h _ v0 .refl sr rfl (.str _)⟩
    · exact nomatch e
  | non => simp only [gSl, reduceCtorEq] at e
  | bl b => simp only [gSl, reduceCtorEq] at e
  | int b => simp only [gSl, reduceCtorEq] at e
  | fn a => simp only [gSl, reduceCtorEq] at e
  | ob a => simp only [gSl, reduceCtorEq] at e
  | ev a => simp only [gSl, reduceCtorEq] at e
  | clo a => simp only [gSl, reduceCtorEq] at e
  | dct p l q => simp only [gSl, reduceCtorEq] at e
def eSl (a : E) (lo hi : Os) : E := fun δ s => (a δ s).bind fun x s1 => (lo δ s1).bind fun l s2 => (hi δ s2).bind fun h s3 => R.ofO (gSl (rsv s3 x) l h) s3
theorem se_sl {lo hi : Option Expr} {fl fh : Os} (ha : SE X C a fa) (hl : SO X C lo fl) (hh : SO X C hi fh) : SE X C (.Subscript a (.Slice lo hi none p2) pos) (eSl fa fl fh) :=
  pe_weak (pe_slice s_sl ha hl hh) fun σ H Q ⟨δ, v, re, eH, h⟩ => by
    refine ⟨δ, v, re, eH, on_mono (on_bind h) fun d x v1 l1 s1 r1 h1 => ?_⟩
    refine ⟨δ, v1, re.step l1 s1, rfl, on_mono (on_bind h1) fun l y v2 l2 s2 e2 h2 => ?_⟩
    cases e2
    refine ⟨δ, v2, (re.step l1 s1).step l2 s2, rfl, on_mono (on_bind h2) fun u y v3 l3 s3 e3 h3 => ?_⟩
    cases e3
    obtain ⟨z, e, h3⟩ := on_ofO h3
    exact ⟨v3, _, z, rfl, s3, e, ((l2.trans l3).rep r1).top s3, h3⟩
/-- xs[::-1] -/
def gRev : B1
  | .lst xs => some (.lst xs.reverse)
  | _ => none
theorem se_rev {k : Nat} {p1 p3 p4 : Pos} (ha : SE X C a fa) : SE X C (.Subscript a (.Slice none none (some (.UnaryOp .USub (.Constant (.int 1) k p1) p3)) p4) pos) (eUn gRev fa) :=
  pe_weak (pe_revL ha) fun σ H Q h => by
    obtain ⟨δ, v, re, eH, h1⟩ := lift_un h
    refine ⟨δ, v, re, eH, on_mono h1 fun d x v1 l1 s1 r1 h2 => ?_⟩
    obtain ⟨v2, dx, d2, eH2, sr, e, r2, h2⟩ := h2
    cases r2 <;> simp only [gRev, Option.some.injEq, reduceCtorEq] at e
    rename_i c vs ds p q
    subst e
    rw [← eH2]
    exact ⟨_, _, rfl, p, fun l hl => let ⟨l9, s9⟩ := new_ok (o := .lst _) sr hl; h2 _ _ l9 s9 rfl (.lst (SqL.of upd_same) (l9.repl q.reverse))⟩

/-! ### isinstance -/
def tyN : D → Option String
  | .non => some "NoneType"
  | .bl _ => some "bool"
  | .int _ => some "int"
  | .str _ => some "str"
  | .tup _ => some "tuple"
  | .lst _ => some "list"
  | .fn _ => none
  | .ob _ => none
  | .ev _ _ _ => none
  | .clo _ _ => none
  | .dct _ _ => some "dict"
theorem RepT.tyx {K : PySem.W.Frag} {ct : String → Addr} {w : Vw} (sr : SR K ct w) {d : D} {v : V} {n : String} (r : RepT K ct w d v) (e : tyN d = some n) : TyX K w.H v (.type n) := by
  cases r <;> simp only [tyN, Option.some.injEq, reduceCtorEq] at e <;> subst e
  · exact .base .non
  · exact .base (.bl _)
  · exact .base (.int _)
  · exact .base (.str _)
  · rename_i a vs ds h r
    rcases sqt_mono sr.sub h with (h | ⟨o, h⟩) | ⟨o, its, m, h, c, _⟩
    · exact .base (.tup h)
    · exact .fTuple h
    · exact .kTuple h c
  · rename_i a vs ds h r
    rcases h with (h | ⟨o, h⟩) | ⟨o, its, m, h, c, _⟩
    · exact .base (.lst h)
    · exact .base (.frz h)
    · exact .kList h c
  · rename_i a vs ks ds h l r
    exact .base (.dK h)
theorem RepT.more {K : PySem.W.Frag} {ct : String → Addr} {w w' : Vw} {d : D} {v : V} (l : Le w w') (e : w'.G = w.G) (hh : Same w.H w'.H) (r : RepT K ct w d v) : RepT K ct w' d v := by
  cases r with
  | non => exact .non
  | bl b => exact .bl b
  | int b => exact .int b
  | str b => exact .str b
  | fn s => exact .fn s
  | ob h => exact .ob (l.m _ _ h)
  | tup h r => exact .tup (sqt_mono l.g h) (l.repl r)
  | lst h r => exact .lst (hh.seq h) (l.repl r)
  | dct h k r => exact .dct (hh _ _ h) k (l.repl r)
  | ev h => exact .ev (l.rep h)
  | clo h => exact .clo (l.rep h)
/-- the built-in class n of a datum's class -/
def isTy : String → String → Bool
  | "bool", "int" => true
  | a, b => a == b
def gIsi (n : String) : B1 := fun d => (tyN d).map fun t => .bl (isTy t n)
def okTy (n : String) : Bool := ["NoneType", "bool", "int", "str", "tuple", "list", "dict"].all fun t => decide (kitB t n = some (isTy t n))
theorem tyN_mem {d : D} {t : String} (h : tyN d = some t) : t ∈ ["NoneType", "bool", "int", "str", "tuple", "list", "dict"] := by
  cases d <;> simp only [tyN, Option.some.injEq, reduceCtorEq] at h <;> subst h <;> simp
theorem se_isi {pf pn : Pos} {n : String} {nx : Str} (ha : SE X C a fa) (hg : Gl X "isinstance") (hm : X.mg "isinstance" = none) (hgn : Gl X nx) (hmn : X.mg nx = none) (hv : bootBuiltins nx = some (.type n)) (hk : okTy n = true := by decide +kernel)
    (hn : nx ≠ "__name__" := by decide) (hd : (nx == ("__debug__" : Str)) = false := by decide) (hvi : bootBuiltins "isinstance" = some (.builtin "isinstance") := by decide +kernel)
    (hs : starEach [a, .Name nx pn] X.env = (false, eval a X.env) :: starEach [.Name nx pn] X.env := by rfl) (hpl : (backTo pos (starEach [.Name nx pn] X.env)).any (·.1) = false := by rfl)
    (hs2 : starEach [.Name nx pn] X.env = (false, eval (.Name nx pn) X.env) :: starEach [] X.env := by rfl) :
    SE X C (.Call (.Name "isinstance" pf) [a, .Name nx pn] [] pos) (eUn (gIsi n) fa) :=
  pe_weak (pe_callB call_isi hg hm hvi (pa_cons ha (pa_cons (pe_bltn (v := .ty n) hgn hmn hv rfl hn hd) pa_nil hs2) hs) (by decide) (by decide) hs hpl) fun σ H Q h => by
    obtain ⟨δ, v8, re, eH, h1⟩ := lift_un h
    refine ⟨δ, v8, re, eH, on_mono h1 fun d v v1 l1 s1 r1 h2 => ?_⟩
    obtain ⟨v2, dx, d2, eH2, sr, e, r2, h2⟩ := h2
    rw [← eH2]
    unfold gIsi at e
    cases q : tyN dx with
    | none => rw [q] at e; exact nomatch e
    | some t =>
      rw [q] at e
      simp only [Option.map_some, Option.some.injEq] at e
      subst e
      have z : kitB t n = some (isTy t n) := of_decide_eq_true (List.all_eq_true.mp hk t (tyN_mem q))
      exact ⟨v, .ty n, .type t, .type n, isTy t n, rfl, .ty n, r2.tyx sr q, kit_ty z, h2 _ v2 .refl sr rfl (.bl _)⟩
/-- isinstance(x, (T, U)) -/
def gIsi2 (n m : String) : B1 := fun d => (tyN d).map fun t => .bl (isTy t n || isTy t m)
theorem se_isi2 {pf pn pm pt : Pos} {kt : Nat} {n m : String} {nx mx : Str} (ha : SE X C a fa) (hg : Gl X "isinstance") (hm : X.mg "isinstance" = none) (hgn : Gl X nx) (hmn : X.mg nx = none) (hv : bootBuiltins nx = some (.type n)) (hgm : Gl X mx) (hmm : X.mg mx = none) (hvm : bootBuiltins mx = some (.type m)) (hk : okTy n = true := by decide +kernel) (hk2 : okTy m = true := by decide +kernel)
    (hn : nx ≠ "__name__" := by decide) (hd : (nx == ("__debug__" : Str)) = false := by decide) (hn2 : mx ≠ "__name__" := by decide) (hd2 : (mx == ("__debug__" : Str)) = false := by decide) (hvi : bootBuiltins "isinstance" = some (.builtin "isinstance") := by decide +kernel)
    (hs : starEach [a, .Tuple [.Name nx pn, .Name mx pm] kt pt] X.env = (false, eval a X.env) :: starEach [.Tuple [.Name nx pn, .Name mx pm] kt pt] X.env := by rfl) (hpl : (backTo pos (starEach [.Tuple [.Name nx pn, .Name mx pm] kt pt] X.env)).any (·.1) = false := by rfl)
    (hs2 : starEach [.Tuple [.Name nx pn, .Name mx pm] kt pt] X.env = (false, eval (.Tuple [.Name nx pn, .Name mx pm] kt pt) X.env) :: starEach [] X.env := by rfl)
    (hs3 : starEach [.Name nx pn, .Name mx pm] X.env = (false, eval (.Name nx pn) X.env) :: starEach [.Name mx pm] X.env := by rfl) (hs4 : starEach [.Name mx pm] X.env = (false, eval (.Name mx pm) X.env) :: starEach [] X.env := by rfl) :
    SE X C (.Call (.Name "isinstance" pf) [a, .Tuple [.Name nx pn, .Name mx pm] kt pt] [] pos) (eUn (gIsi2 n m) fa) :=
  pe_weak (pe_callB call_isiT hg hm hvi (pa_cons ha (pa_cons (pe_tup (pa_cons (pe_bltn (v := .ty n) hgn hmn hv rfl hn hd) (pa_cons (pe_bltn (v := .ty m) hgm hmm hvm rfl hn2 hd2) pa_nil hs4) hs3)) pa_nil hs2) hs) (by decide) (by decide) hs hpl) fun σ H Q h => by
    obtain ⟨δ, v8, re, eH, h1⟩ := lift_un h
    refine ⟨δ, v8, re, eH, on_mono h1 fun d v v1 l1 s1 r1 h2 => ?_⟩
    obtain ⟨v2, dx, d2, eH2, sr, e, r2, h2⟩ := h2
    rw [← eH2]
    unfold gIsi2 at e
    cases q : tyN dx with
    | none => rw [q] at e; exact nomatch e
    | some t =>
      rw [q] at e
      simp only [Option.map_some, Option.some.injEq] at e
      subst e
      have z : kitB t n = some (isTy t n) := of_decide_eq_true (List.all_eq_true.mp hk t (tyN_mem q))
      have z2 : kitB t m = some (isTy t m) := of_decide_eq_true (List.all_eq_true.mp hk2 t (tyN_mem q))
      refine ⟨by show 2 ≤ sizeLine; decide, fun c hc => ?_⟩
      obtain ⟨l9, s9⟩ := more_ok sr (same_new hc (.tup [V.ty n, V.ty m]))
      have ty : TyX X.K (upd v2.H c (.tup [V.ty n, V.ty m])) v (.type t) := (r2.more l9 rfl (same_new hc _)).tyx s9 q
      refine ⟨v, c, [.ty n, .ty m], .type t, [.type n, .type m], isTy t n || isTy t m, rfl, upd_same, .cons (.ty n) (.cons (.ty m) .nil), ty, ?_, h2 _ _ l9 s9 rfl (.bl _)⟩
      refine kitAny_cons (kit_ty z) (fun b1 => ?_) (fun b1 => ?_)
      · rw [b1, Bool.false_or]
        exact kitAny_cons (kit_ty z2) (fun b2 => by rw [b2]; exact kitAny_nil) (fun b2 => b2)
      · rw [b1, Bool.true_or]

/-! ### methods of texts -/
def rDM (K : PySem.W.Frag) (ct : String → Addr) (g : D → List D → Option D) : V → List V → Hp → VK → Prop := fun x xs H Q => ∃ v dx ds d, v.H = H ∧ SR K ct v ∧ g dx ds = some d ∧ RepT K ct v dx x ∧ RepTL K ct v ds xs ∧ ∀ z v', Le v v' → SR K ct v' → v'.st = v.st → Rep K ct v'.G v'.m d z → Q z v'.H
def isStr : D → Bool
  | .str _ => true
  | _ => false
def eM1 (g : D → List D → Option D) (o a : E) : E := fun δ s => (o δ s).bind fun x s1 => if isStr x then (a δ s1).bind fun y s2 => R.ofO (g x [rsv s2 y]) s2 else .stk
theorem se_m1 {o : Expr} {fo : E} {g : D → List D → Option D} {id : String} {name : Str} {apos : Pos} (slot : PySem.Slot "str" name id) (ty : typeOf (.builtin id) = pure (.type "method_descriptor")) (rule : MtR X id (rDM X.K C.ct g)) (ho : SE X C o fo) (ha : SE X C a fa)
    (hs : starEach [a] X.env = [(false, eval a X.env)] := by rfl) (hbase : attributeBase o name X.env (eval o X.env) = eval o X.env := by rfl) (hline : (apos.endLine == pos.line) = true := by rfl) : SE X C (.Call (.Attribute o name apos) [a] [] pos) (eM1 g fo fa) :=
  pe_weak (pe_m1 slot ty rule ho ha hs hbase hline) fun σ H Q ⟨δ, v, re, eH, h⟩ => by
    refine ⟨δ, v, re, eH, on_mono (on_bind h) fun d x v1 l1 s1 r1 h1 => ?_⟩
    cases r1 <;> first
      | exact h1.elim
      | skip
    rename_i z
    refine ⟨⟨z, rfl⟩, δ, v1, re.step l1 s1, rfl, on_mono (on_bind (show on X.K C σ v1 (rE X.K C.ct) ((fa δ v1.st).bind fun y s2 => R.ofO (g (.str z) [rsv s2 y]) s2) _ from h1)) fun d2 x2 v2 l2 s2 r2 h2 => ?_⟩
    obtain ⟨w, e, h2⟩ := on_ofO h2
    exact ⟨v2, _, _, w, rfl, s2, e, .str z, .cons (r2.top s2) .nil, h2⟩
def gFind : D → List D → Option D
  | .str a, [.str b] => some (.int (Txt.find a b))
  | _, _ => none
def gStarts : D → List D → Option D
  | .str a, [.str b] => some (.bl (Txt.startswith a b))
  | _, _ => none
def gPart : D → List D → Option D
  | .str a, [.str b] => if (b.length == 0) = false ∧ a.length ≤ sizeLine then some (.tup [.str (Txt.partition a b).1, .str (Txt.partition a b).2.1, .str (Txt.partition a b).2.2]) else none
  | _, _ => none
def gSplit : D → List D → Option D
  | .str a, [.str b] => if (b.length == 0) = false ∧ a.length + 2 ≤ sizeLine then some (.lst ((Txt.split a b).map .str)) else none
  | _, _ => none
def gJoin : D → List D → Option D
  | .str a, [.lst xs] => (strsOf xs).bind fun ys => if (ys.map (·.length)).sum + ys.length * a.length ≤ 16777216 then some (.str (Txt.join a ys)) else none
  | _, _ => none
theorem m_find {ct : String → Addr} : MtR X "str.find" (rDM X.K ct gFind) := by
  intro pins s σ H x xs v us Q I rx ru h
  obtain ⟨v0, dx, ds, d, rfl, sr, e, r1, r2, h⟩ := h
  unfold gFind at e
  split at e
  · cases r1
    cases r2 with
    | cons r2 r3 =>
      cases r2; cases r3
      simp only [Option.some.injEq] at e
      subst e
      exact mt_find pins s σ _ _ _ v us Q I rx ru ⟨_, _, rfl, rfl, h _ v0 .refl sr rfl (.int _)⟩
  · exact nomatch e
theorem m_starts {ct : String → Addr} : MtR X "str.startswith" (rDM X.K ct gStarts) := by
  intro pins s σ H x xs v us Q I rx ru h
  obtain ⟨v0, dx, ds, d, rfl, sr, e, r1, r2, h⟩ := h
  unfold gStarts at e
  split at e
  · cases r1
    cases r2 with
    | cons r2 r3 =>
      cases r2; cases r3
      simp only [Option.some.injEq] at e
      subst e
      exact mt_startswith pins s σ _ _ _ v us Q I rx ru ⟨_, _, rfl, rfl, h _ v0 .refl sr rfl (.bl _)⟩
  · exact nomatch e
theorem m_part {ct : String → Addr} : MtR X "str.partition" (rDM X.K ct gPart) := by
  intro pins s σ H x xs v us Q I rx ru h
  obtain ⟨v0, dx, ds, d, rfl, sr, e, r1, r2, h⟩ := h
  unfold gPart at e
  split at e
  · cases r1
    cases r2 with
    | cons r2 r3 =>
      cases r2; cases r3
      split at e
      · rename_i hz
        simp only [Option.some.injEq] at e
        subst e
        exact mt_partition pins s σ _ _ _ v us Q I rx ru ⟨_, _, rfl, rfl, hz.1, hz.2, fun c hc => let ⟨l, s2⟩ := new_ok (o := .tup _) sr hc; h _ _ l s2 rfl (.tup (SqT.of upd_same) (.cons (.str _) (.cons (.str _) (.cons (.str _) .nil))))⟩
      · exact nomatch e
  · exact nomatch e
theorem RepL.strs {K : PySem.W.Frag} {ct : String → Addr} {G : Hp} {m : Nat → Option Addr} : ∀ ns : List Str, RepL K ct G m (ns.map D.str) (ns.map V.str)
  | [] => .nil
  | n :: r => .cons (.str n) (RepL.strs r)
theorem m_split {ct : String → Addr} : MtR X "str.split" (rDM X.K ct gSplit) := by
  intro pins s σ H x xs v us Q I rx ru h
  obtain ⟨v0, dx, ds, d, rfl, sr, e, r1, r2, h⟩ := h
  unfold gSplit at e
  split at e
  · cases r1
    cases r2 with
    | cons r2 r3 =>
      cases r2; cases r3
      split at e
      · rename_i hz
        simp only [Option.some.injEq] at e
        subst e
        exact mt_split pins s σ _ _ _ v us Q I rx ru ⟨_, _, rfl, rfl, hz.1, hz.2, fun c hc => let ⟨l, s2⟩ := new_ok (o := .lst _) sr hc; h _ _ l s2 rfl (.lst (SqL.of upd_same) (RepL.strs _))⟩
      · exact nomatch e
  · exact nomatch e
theorem m_join {ct : String → Addr} : MtR X "str.join" (rDM X.K ct gJoin) := by
  intro pins s σ H x xs v us Q I rx ru h
  obtain ⟨v0, dx, ds, d, rfl, sr, e, r1, r2, h⟩ := h
  unfold gJoin at e
  split at e
  · rename_i a ys
    cases q1 : strsOf ys with
    | none => rw [q1] at e; exact nomatch e
    | some ns =>
      rw [q1] at e
      simp only [Option.bind_some] at e
      have e2 := strsOf_eq q1
      subst e2
      split at e
      · rename_i hz
        simp only [Option.some.injEq] at e
        subst e
        cases r1
        cases r2 with
        | cons r2 r3 =>
          cases r3
          cases r2 with
          | lst p q =>
            have e3 := RepL.of_strs q
            subst e3
            exact mt_join pins s σ _ _ _ v us Q I rx ru ⟨_, _, ns, rfl, rfl, .inl (p), hz, h _ v0 .refl sr rfl (.str _)⟩
      · exact nomatch e
  · exact nomatch e
end
end Gs

/-! G5: statements, targets, loops. -/
namespace Gs
open PySem L2

inductive RS where
  | nx (δ : Sl) (s : Sto) | rt (d : D) (s : Sto) | bk (δ : Sl) (s : Sto) | ct (δ : Sl) (s : Sto) | exc (e : Ex) (δ : Sl) (s : Sto) | stk
abbrev S := Sl → Sto → RS
def onS (K : PySem.W.Frag) (C : Cc) (v : Vw) (r : RS) (Dn : Ends) : Prop := match r with
  | .nx δ s => ∀ σ' v', RE K C σ' δ v' → Le v v' → v'.st = s → Dn.nx σ' v'.H
  | .bk δ s => ∀ σ' v', RE K C σ' δ v' → Le v v' → v'.st = s → Dn.bk σ' v'.H
  | .ct δ s => ∀ σ' v', RE K C σ' δ v' → Le v v' → v'.st = s → Dn.ct σ' v'.H
  | .rt d s => ∀ x v', Le C.v0 v' → SR K C.ct v' → v'.st = s → Rep K C.ct v'.G v'.m d x → Dn.rt x v'.H
  | .exc e δ s => ∀ cls dd σ' v', RE K C σ' δ v' → Le v v' → v'.st = s → RepX K C.ct v' e cls dd → C.W cls dd σ' v'.H
  | .stk => False
def liftS (K : PySem.W.Frag) (C : Cc) (f : S) : TS := fun Dn σ H => ∃ δ v, RE K C σ δ v ∧ v.H = H ∧ onS K C v (f δ v.st) Dn
abbrev SS (X : Cx) (C : Cc) (st : Stmt) (f : S) : Prop := PS X st (liftS X.K C f)
abbrev SSs (X : Cx) (C : Cc) (st : List Stmt) (f : S) : Prop := PSs X st (liftS X.K C f)
theorem ps_weak {X : Cx} {e : Stmt} {t t' : TS} (h : PS X e t) (w : ∀ Dn σ H, t' Dn σ H → t Dn σ H) : PS X e t' := ⟨fun pins s σ H Dn I z => h.run pins s σ H Dn I (w Dn σ H z)⟩
theorem pss_weak {X : Cx} {e : List Stmt} {t t' : TS} (h : PSs X e t) (w : ∀ Dn σ H, t' Dn σ H → t Dn σ H) : PSs X e t' := ⟨fun pins s σ H Dn I z => h.run pins s σ H Dn I (w Dn σ H z)⟩
section
variable {α β : Type} {K : PySem.W.Frag} {C : Cc} {σ : L2.St} {v v' : Vw} {Dn : Ends} {rel : α → β → Vw → Prop}
theorem onS_same {r : RS} (l : Le v v') (h : onS K C v r Dn) : onS K C v' r Dn := by
  cases r with
  | nx δ s => exact fun σ' w re z => h σ' w re (l.trans z)
  | bk δ s => exact fun σ' w re z => h σ' w re (l.trans z)
  | ct δ s => exact fun σ' w re z => h σ' w re (l.trans z)
  | rt d s => exact h
  | exc e δ s => exact fun cls dd σ' w re z => h cls dd σ' w re (l.trans z)
  | stk => exact h
/-- an expression ahead of a statement's rest -/
def sBind {α : Type} (r : R α) (δ : Sl) (k : α → Sto → RS) : RS := match r with
  | .ok a s => k a s
  | .exc e s => .exc e δ s
  | .stk => .stk
theorem onX_of {δ : Sl} {e : Ex} {s : Sto} (re : RE K C σ δ v) (h : onS K C v (.exc e δ s) Dn) : onX K C σ v e s := fun cls dd v' l sr es r => h cls dd σ v' (re.step l sr) l es r
theorem onS_R {δ : Sl} {r : R α} {k : α → Sto → RS} (re : RE K C σ δ v) (h : onS K C v (sBind r δ k) Dn) : on K C σ v rel r fun a _ v1 => onS K C v1 (k a v1.st) Dn := by
  cases r with
  | ok a s =>
    intro b v1 l sr e _
    subst e
    exact onS_same l h
  | exc e s => exact onX_of re h
  | stk => exact h
end

/-! ### blocks -/
def sNx : S := fun δ s => .nx δ s
def sSeq (f g : S) : S := fun δ s => match f δ s with
  | .nx δ' s' => g δ' s'
  | r => r
section
variable {X : Cx} {C : Cc} {pos : Pos} {st : Stmt} {rest : List Stmt} {f g : S}
theorem ss_nil : SSs X C [] sNx := pss_weak pss_nil fun Dn σ H ⟨δ, v, re, eH, h⟩ => by subst eH; exact h σ v re .refl rfl
theorem ss_one (h1 : SS X C st f) : SSs X C [st] f := pss_one h1
theorem ss_cons (h1 : SS X C st f) (h2 : SSs X C rest g) : SSs X C (st :: rest) (sSeq f g) := pss_weak (pss_cons h1 h2) fun Dn σ H ⟨δ, v, re, eH, h⟩ => by
  refine ⟨δ, v, re, eH, ?_⟩
  unfold sSeq at h
  cases e : f δ v.st with
  | nx δ' s' => rw [e] at h; exact fun σ' v' re' l es => ⟨δ', v', re', rfl, by subst es; exact onS_same l h⟩
  | rt d s' => rw [e] at h; exact h
  | bk δ' s' => rw [e] at h; exact h
  | ct δ' s' => rw [e] at h; exact h
  | exc e2 δ' s' => rw [e] at h; exact h
  | stk => rw [e] at h; exact h
theorem ss_pass : SS X C (.Pass pos) sNx := ps_weak ps_pass fun Dn σ H ⟨δ, v, re, eH, h⟩ => by subst eH; exact h σ v re .refl rfl
def sBk : S := fun δ s => .bk δ s
def sCt : S := fun δ s => .ct δ s
theorem ss_break : SS X C (.Break pos) sBk := ps_weak ps_break fun Dn σ H ⟨δ, v, re, eH, h⟩ => by subst eH; exact h σ v re .refl rfl
theorem ss_cont : SS X C (.Continue pos) sCt := ps_weak ps_continue fun Dn σ H ⟨δ, v, re, eH, h⟩ => by subst eH; exact h σ v re .refl rfl
def sRet (f : E) : S := fun δ s => sBind (f δ s) δ fun d s1 => .rt d s1
theorem ss_ret {e : Expr} {f : E} (he : SE X C e f) : SS X C (.Return (some e) pos) (sRet f) := ps_weak (ps_ret he) fun Dn σ H ⟨δ, v, re, eH, h⟩ =>
  ⟨δ, v, re, eH, on_mono (onS_R re h) fun d x v1 l1 s1 r1 h1 => h1 x v1 (re.le.trans l1) s1 rfl r1⟩
def sRetN : S := fun _ s => .rt .non s
theorem ss_retN : SS X C (.Return none pos) sRetN := ps_weak ps_retN fun Dn σ H ⟨δ, v, re, eH, h⟩ => by subst eH; exact h .non v re.le re.sr rfl .non
def sIf (t : T) (a b : S) : S := fun δ s => sBind (t δ s) δ fun k s1 => if k = true then a δ s1 else b δ s1
theorem ss_if {c : Expr} {a b : List Stmt} {t : T} {fa fb : S} (hc : ST X C c t) (ha : SSs X C a fa) (hb : SSs X C b fb) : SS X C (.If c a b pos) (sIf t fa fb) := ps_weak (ps_if hc ha hb) fun Dn σ H ⟨δ, v, re, eH, h⟩ => by
  refine ⟨δ, v, re, eH, on_mono (onS_R re h) fun k k2 v1 l1 s1 e h1 => ?_⟩
  cases e
  cases k with
  | true => exact ⟨δ, v1, re.step l1 s1, rfl, h1⟩
  | false => exact ⟨δ, v1, re.step l1 s1, rfl, h1⟩
def sDrop (f : E) : S := fun δ s => sBind (f δ s) δ fun _ s1 => .nx δ s1
theorem ss_expr {e : Expr} {f : E} (he : SE X C e f) (hs : swapsWith e none pos.line X.env = pure false := by rfl) : SS X C (.Expr e pos) (sDrop f) := ps_weak (ps_expr he hs) fun Dn σ H ⟨δ, v, re, eH, h⟩ =>
  ⟨δ, v, re, eH, on_mono (onS_R re h) fun d x v1 l1 s1 r1 h1 => h1 σ v1 (re.step l1 s1) .refl rfl⟩
def sStk : S := fun _ _ => .stk
theorem ss_never : SS X C st sStk := ps_weak ps_never fun Dn σ H ⟨δ, v, re, eH, h⟩ => h
def sSet (i : Nat) (f : E) : S := fun δ s => sBind (f δ s) δ fun d s1 => .nx (δ.set i (some d)) s1
theorem ss_set (i : Nat) {x : Str} {e : Expr} {f : E} {pos' : Pos} (he : SE X C e f) (hN : X.N.Nodup) (hi : X.N[i]? = some x := by rfl) (hx : Loc X.env.scope x := by first | exact Or.inl rfl | exact Or.inr rfl) (hs : swapsWith e (some (.Name x pos')) pos.line X.env = pure false := by rfl)
    (hf : X.fn x = true ∨ X.env.scope.names.lookup x = some .local := by first | exact Or.inr rfl | exact Or.inl rfl) : SS X C (.Assign [.Name x pos'] e pos) (sSet i f) := ps_weak (ps_set hN hi hx he hs hf) fun Dn σ H ⟨δ, v, re, eH, h⟩ =>
  ⟨δ, v, re, eH, on_mono (onS_R re h) fun d x v1 l1 s1 r1 h1 => h1 (σ.set i (some x)) v1 ((re.step l1 s1).setV i r1) .refl rfl⟩
end

/-! ### targets -/
inductive Pt where
  | nm (i : Nat) | tp (ps : List Pt)
mutual
def bindP : Pt → D → Sl → Option Sl
  | .nm i, d, δ => some (δ.set i (some d))
  | .tp ps, .tup ds, δ => bindPs ps ds δ
  | .tp ps, .lst ds, δ => bindPs ps ds δ
  | _, _, _ => none
def bindPs : List Pt → List D → Sl → Option Sl
  | [], [], δ => some δ
  | p :: ps, d :: ds, δ => match bindP p d δ with
    | some δ' => bindPs ps ds δ'
    | none => none
  | _, _, _ => none
end
mutual
def idxP : Pt → List Nat
  | .nm i => [i]
  | .tp ps => idxPs ps
def idxPs : List Pt → List Nat
  | [] => []
  | p :: ps => idxP p ++ idxPs ps
end
/-- σ' differs from σ at these places alone -/
def Off (is : List Nat) (σ σ' : L2.St) : Prop := σ'.length = σ.length ∧ ∀ j, j ∉ is → σ'[j]? = σ[j]?
theorem Off.refl {is : List Nat} {σ : L2.St} : Off is σ σ := ⟨rfl, fun _ _ => rfl⟩
theorem Off.trans {is js : List Nat} {σ σ1 σ2 : L2.St} (a : Off is σ σ1) (b : Off js σ1 σ2) : Off (is ++ js) σ σ2 :=
  ⟨b.1.trans a.1, fun j hj => (b.2 j fun z => hj (List.mem_append_right _ z)).trans (a.2 j fun z => hj (List.mem_append_left _ z))⟩
def liftG (K : PySem.W.Frag) (C : Cc) (p : Pt) : TG := fun x σ H Q => ∃ d δ v δ', RE K C σ δ v ∧ v.H = H ∧ Rep K C.ct v.G v.m d x ∧ bindP p d δ = some δ' ∧ ∀ σ', RE K C σ' δ' v → Off (idxP p) σ σ' → Q σ' H
def liftGs (K : PySem.W.Frag) (C : Cc) (ps : List Pt) : TGs := fun vs σ H Q => ∃ ds δ v δ', RE K C σ δ v ∧ v.H = H ∧ RepL K C.ct v.G v.m ds vs ∧ bindPs ps ds δ = some δ' ∧ ∀ σ', RE K C σ' δ' v → Off (idxPs ps) σ σ' → Q σ' H
abbrev SG (X : Cx) (C : Cc) (e : Expr) (p : Pt) : Prop := PG X e (liftG X.K C p)
abbrev SGs (X : Cx) (C : Cc) (es : List Expr) (ps : List Pt) : Prop := PGs X es (liftGs X.K C ps)
theorem pg_weak {X : Cx} {e : Expr} {t t' : TG} (h : PG X e t) (w : ∀ v σ H Q, t' v σ H Q → t v σ H Q) : PG X e t' := ⟨fun pins s σ H v u Q I r z => h.run pins s σ H v u Q I r (w v σ H Q z)⟩
theorem pgs_weak {X : Cx} {e : List Expr} {t t' : TGs} (h : PGs X e t) (w : ∀ v σ H Q, t' v σ H Q → t v σ H Q) : PGs X e t' := ⟨fun pins s σ H v u Q I r z => h.run pins s σ H v u Q I r (w v σ H Q z)⟩
theorem bindPs_len : ∀ {ps : List Pt} {ds : List D} {δ δ' : Sl}, bindPs ps ds δ = some δ' → ds.length = ps.length := by
  intro ps
  induction ps with
  | nil => intro ds δ δ' e; cases ds with
    | nil => rfl
    | cons a b => simp [bindPs] at e
  | cons p ps ih => intro ds δ δ' e; cases ds with
    | nil => simp [bindPs] at e
    | cons a b =>
      simp only [bindPs] at e
      cases q : bindP p a δ with
      | none => rw [q] at e; exact nomatch e
      | some δ1 => rw [q] at e; simp [ih e]
section
variable {X : Cx} {C : Cc} {pos : Pos}
theorem sg_name (i : Nat) {x : Str} (hN : X.N.Nodup) (hi : X.N[i]? = some x := by rfl) (hx : Loc X.env.scope x := by first | exact Or.inl rfl | exact Or.inr rfl) (hf : X.fn x = true ∨ X.env.scope.names.lookup x = some .local := by first | exact Or.inr rfl | exact Or.inl rfl) : SG X C (.Name x pos) (.nm i) :=
  pg_weak (pg_name hN hi hx hf) fun v σ H Q ⟨d, δ, w, δ', re, eH, r, e, h⟩ => by
    simp only [bindP, Option.some.injEq] at e
    subst e
    refine h _ (re.setV i r) ⟨by simp, fun j hj => ?_⟩
    rw [List.getElem?_set_ne]
    intro z
    exact hj (by simp [idxP, z])
theorem sgs_nil : SGs X C [] [] := pgs_weak pgs_nil fun v σ H Q ⟨ds, δ, w, δ', re, eH, r, e, h⟩ => by
  cases r with
  | nil =>
    simp only [bindPs, Option.some.injEq] at e
    subst e
    exact ⟨rfl, h σ re Off.refl⟩
  | cons a b => simp [bindPs] at e
theorem sgs_cons {e : Expr} {es : List Expr} {p : Pt} {ps : List Pt} (h1 : SG X C e p) (h2 : SGs X C es ps) (hs : (assignEach (e :: es) X.env).map (·.2) = assign e X.env :: (assignEach es X.env).map (·.2) := by rfl) : SGs X C (e :: es) (p :: ps) :=
  pgs_weak (pgs_cons h1 h2 hs) fun v σ H Q ⟨ds, δ, w, δ', re, eH, r, e, h⟩ => by
    cases r with
    | nil => simp [bindPs] at e
    | @cons _ _ d9 v0 ds0 vs0 a b =>
      simp only [bindPs] at e
      cases q : bindP p d9 δ with
      | none => rw [q] at e; exact nomatch e
      | some δ1 =>
        rw [q] at e
        exact ⟨v0, vs0, rfl, d9, δ, w, δ1, re, eH, a, q, fun σ1 re1 o1 => ⟨ds0, δ1, w, δ', re1, eH, b, e, fun σ2 re2 o2 => h σ2 re2 (o1.trans o2)⟩⟩
theorem sg_tup {es : List Expr} {k : Nat} {ps : List Pt} (hc : X.calm = true) (h : SGs X C es ps) (hl : es.length = ps.length := by rfl) (hn : (assignEach es X.env).length = es.length := by rfl) (hst : (assignEach es X.env).findIdx? (·.1) = none := by rfl) :
    SG X C (.Tuple es k pos) (.tp ps) := by
  refine ⟨fun pins s σ H v u Q I rv ⟨d, δ, w, δ', re, eH, r, e, z⟩ => ?_⟩
  subst eH
  cases r with
  | @tup _ _ a vs ds p q =>
    simp only [bindP] at e
    have l1 := bindPs_len e
    have l2 := q.length
    exact (pg_tup hc h hn hst).run pins s σ _ _ u Q I rv ⟨a, vs, rfl, sqt_mono re.sr.sub p, by omega, ds, δ, w, δ', re, rfl, q, e, fun σ' re' o => z σ' re' o⟩
  | @lst _ _ a vs ds p q =>
    simp only [bindP] at e
    have l1 := bindPs_len e
    have l2 := q.length
    exact (pg_lst hc h hn hst).run pins s σ _ _ u Q I rv ⟨a, vs, rfl, re.sr.sub.seq p, by omega, ds, δ, w, δ', re, rfl, q, e, fun σ' re' o => z σ' re' o⟩
  | non => simp [bindP] at e
  | bl b => simp [bindP] at e
  | int b => simp [bindP] at e
  | str b => simp [bindP] at e
  | fn b => simp [bindP] at e
  | ob b => simp [bindP] at e
  | ev0 b => simp [bindP] at e
  | ev n a b c d => simp [bindP] at e
  | clo a b c d f => simp [bindP] at e
  | dct p l q => simp [bindP] at e
def sBindP (p : Pt) (d : D) (δ : Sl) (s : Sto) : RS := match bindP p d δ with
  | some δ' => .nx δ' s
  | none => .stk
def sAsg (p : Pt) (f : E) : S := fun δ s => sBind (f δ s) δ fun d s1 => sBindP p d δ s1
theorem ss_asg {tg e : Expr} {p : Pt} {f : E} (he : SE X C e f) (hg : SG X C tg p) (hs : swapsWithSole [tg] e pos.line X.env = pure false := by rfl) (hw : swappedStores [tg] e X.env = pure none := by rfl)
    (h1 : (assignEach [tg] X.env).map (·.2) = [assign tg X.env] := by rfl) : SS X C (.Assign [tg] e pos) (sAsg p f) := ps_weak (ps_asg he hg hs hw h1) fun Dn σ H ⟨δ, v, re, eH, h⟩ =>
  ⟨δ, v, re, eH, on_mono (onS_R re h) fun d0 x v1 l1 s1 r1 h1 => by
    unfold sBindP at h1
    cases q : bindP p d0 δ with
    | none => rw [q] at h1; exact h1.elim
    | some δ' => rw [q] at h1; exact ⟨d0, δ, v1, δ', re.step l1 s1, rfl, r1, q, fun σ' re' _ => h1 σ' v1 re' .refl rfl⟩⟩
/-- x op= e -/
def sAug (i : Nat) (g : B2) (f : E) : S := fun δ s => match δ[i]? with
  | some (some x) => sBind (f δ s) δ fun y s1 => match g (rsv s1 x) (rsv s1 y) with
    | some z => .nx (δ.set i (some z)) s1
    | none => .stk
  | _ => .stk
theorem ss_aug (i : Nat) {x : Str} {e : Expr} {f : E} {op : Operator} {g : B2} {pos' : Pos} (ho : OpR X (inplaceOp op) (rD X.K C.ct g)) (he : SE X C e f) (hN : X.N.Nodup) (hi : X.N[i]? = some x := by rfl) (hx : Loc X.env.scope x := by first | exact Or.inl rfl | exact Or.inr rfl)
    (hf : X.fn x = true ∨ X.env.scope.names.lookup x = some .local := by first | exact Or.inr rfl | exact Or.inl rfl) : SS X C (.AugAssign (.Name x pos') op e pos) (sAug i g f) :=
  ps_weak (ps_aug hN hi hx he ho hf) fun Dn σ H ⟨δ, v, re, eH, h⟩ => by
    unfold sAug at h
    split at h
    · rename_i d0 q
      obtain ⟨v0, e0, r0⟩ := re.sl i d0 q
      refine ⟨v0, e0, δ, v, re, eH, on_mono (onS_R re h) fun d x v1 l1 s1 r1 h1 => ?_⟩
      split at h1
      · rename_i w z
        exact ⟨v1, _, _, w, rfl, s1, z, (l1.rep r0).top s1, r1.top s1, fun x2 v2 l2 s2 e2 r2 => h1 _ v2 (((re.step l1 s1).step l2 s2).setV i r2) l2 e2⟩
      · exact h1.elim
    · exact h.elim
def gAddI : B2
  | .int i, .int j => some (.int (i + j))
  | .str x, .str y => if x.length + y.length ≤ sizeLine then some (.str (x ++ y)) else none
  | _, _ => none
theorem io_addI {ct : String → Addr} : OpR X (inplaceOp .Add) (rD X.K ct gAddI) := by
  intro pins s σ H x y v u Q I rx ry h
  obtain ⟨v0, dx, dy, d, rfl, sr, e, r1, r2, h⟩ := h
  unfold gAddI at e
  split at e
  case h_3 => exact nomatch e
  all_goals cases r1
  all_goals cases r2
  all_goals try simp only [Option.some.injEq] at e
  · subst e
    exact iop_add pins s σ _ _ _ v u Q I rx ry ⟨_, _, rfl, rfl, h _ v0 .refl sr rfl (.int _)⟩
  · split at e
    · rename_i hz
      simp only [Option.some.injEq] at e
      subst e
      exact iop_add_str pins s σ _ _ _ v u Q I rx ry ⟨_, _, rfl, rfl, hz, h _ v0 .refl sr rfl (.str _)⟩
    · exact nomatch e
theorem io_sub {ct : String → Addr} : OpR X (inplaceOp .Sub) (rD X.K ct gSub) := by
  intro pins s σ H x y v u Q I rx ry h
  obtain ⟨v0, dx, dy, d, rfl, sr, e, r1, r2, h⟩ := h
  unfold gSub at e
  split at e
  case h_2 => exact nomatch e
  cases r1
  cases r2
  simp only [Option.some.injEq] at e
  subst e
  exact iop_sub pins s σ _ _ _ v u Q I rx ry ⟨_, _, rfl, rfl, h _ v0 .refl sr rfl (.int _)⟩
end

/-! ### for -/
structure ItOk (K : PySem.W.Frag) (ct : String → Addr) (J : It) (v : Vw) (items : List D) : Prop where
  go : ∀ i w, Le v w → SR K ct w → i < items.length → J.go i w.H
  stop : ∀ i w, Le v w → SR K ct w → items.length ≤ i → J.stop i w.H
  yld : ∀ i w x H', Le v w → SR K ct w → i < items.length → J.yld i w.H x H' → ∃ d w2, items[i]? = some d ∧ w2.H = H' ∧ Le w w2 ∧ SR K ct w2 ∧ w2.st = w.st ∧ Rep K ct w2.G w2.m d x
abbrev rI (K : PySem.W.Frag) (ct : String → Addr) : List D → It → Vw → Prop := fun items J v => ItOk K ct J v items
def liftI (K : PySem.W.Frag) (C : Cc) (f : As) : TI := fun σ H P => ∃ δ v, RE K C σ δ v ∧ v.H = H ∧ on K C σ v (rI K C.ct) (f δ v.st) fun _ J v' => P J v'.H
abbrev SI (X : Cx) (C : Cc) (tg e : Expr) (f : As) : Prop := PI X tg e (liftI X.K C f)
theorem pi_weak {X : Cx} {tg e : Expr} {t t' : TI} (h : PI X tg e t) (w : ∀ σ H Q, t' σ H Q → t σ H Q) : PI X tg e t' := ⟨fun pins s σ H Q I z => h.run pins s σ H Q I (w σ H Q z)⟩
def forD (p : Pt) (body : S) : List D → Sl → Sto → RS
  | [], δ, s => .nx δ s
  | d :: ds, δ, s => match bindP p d δ with
    | none => .stk
    | some δ1 => match body δ1 s with
      | .nx δ2 s2 => forD p body ds δ2 s2
      | .ct δ2 s2 => forD p body ds δ2 s2
      | .bk δ2 s2 => .nx δ2 s2
      | r => r
def sFor (it : As) (p : Pt) (body : S) : S := fun δ s => sBind (it δ s) δ fun items s1 => forD p body items δ s1
section
variable {X : Cx} {C : Cc} {pos : Pos} {tg iter : Expr}
theorem ss_for {body : List Stmt} {f : As} {p : Pt} {fb : S} (hp : PassesOwn (model X.prog X.w) X.A X.env X.xe) (hc : X.calm = true) (hi : SI X C tg iter f) (hg : SG X C tg p) (hb : SSs X C body fb)
    (hs : ∀ x, foldedSetIterable iter X.env x = pure x := by intro _; rfl) : SS X C (.For tg iter body [] pos) (sFor f p fb) := ps_weak (ps_for hp hc hi hg hb hs) fun Dn σ H ⟨δ, v, re, eH, h⟩ => by
  refine ⟨δ, v, re, eH, on_mono (onS_R re h) fun items J v1 l1 s1 ok h0 => ?_⟩
  refine ⟨fun i m σ H => m = items.length - i ∧ i ≤ items.length ∧ ∃ δ w, RE X.K C σ δ w ∧ w.H = H ∧ Le v1 w ∧ onS X.K C w (forD p fb (items.drop i) δ w.st) Dn, ⟨items.length, by simp, Nat.zero_le _, δ, v1, re.step l1 s1, rfl, .refl, h0⟩, ?_⟩
  rintro i m σ2 H2 ⟨rfl, hi, δ2, w, re2, rfl, lw, q⟩
  by_cases hlt : i < items.length
  · refine .inr ⟨ok.go i w lw re2.sr hlt, fun σ H => ∃ δ w, RE X.K C σ δ w ∧ w.H = H ∧ Le v1 w ∧ onS X.K C w (forD p fb (items.drop (i + 1)) δ w.st) Dn, fun σ' H' n => ⟨items.length - (i + 1), by omega, rfl, hlt, n⟩, fun x H' y => ?_⟩
    obtain ⟨d, w3, ed, rfl, l3, s3, e3, r3⟩ := ok.yld i w x H' lw re2.sr hlt y
    have ed2 : items.drop i = d :: items.drop (i + 1) := by
      rw [List.drop_eq_getElem_cons hlt]
      rw [List.getElem?_eq_getElem hlt] at ed
      rw [Option.some.inj ed]
    rw [ed2] at q
    simp only [forD] at q
    cases eb : bindP p d δ2 with
    | none => rw [eb] at q; exact q.elim
    | some δ3 =>
      rw [eb] at q
      refine ⟨d, δ2, w3, δ3, re2.step l3 s3, rfl, r3, eb, fun σ4 re4 _ => ⟨δ3, w3, re4, rfl, ?_⟩⟩
      simp only at q
      rw [e3]
      cases ef : fb δ3 w.st with
      | nx δ4 s4 => rw [ef] at q; exact fun σ' w' re' l' es => ⟨δ4, w', re', rfl, (lw.trans l3).trans l', by subst es; exact onS_same (l3.trans l') q⟩
      | ct δ4 s4 => rw [ef] at q; exact fun σ' w' re' l' es => ⟨δ4, w', re', rfl, (lw.trans l3).trans l', by subst es; exact onS_same (l3.trans l') q⟩
      | bk δ4 s4 => rw [ef] at q; exact fun σ' w' re' l' es => q σ' w' re' (l3.trans l') es
      | rt d s4 => rw [ef] at q; exact q
      | exc e4 δ4 s4 => rw [ef] at q; exact fun cls dd σ' w' re' l' es rx => q cls dd σ' w' re' (l3.trans l') es rx
      | stk => rw [ef] at q; exact q
  · have ei : i = items.length := by omega
    subst ei
    rw [List.drop_length] at q
    exact .inl ⟨ok.stop _ w lw re2.sr (Nat.le_refl _), q σ2 w re2 .refl rfl⟩

/-! ### what is walked -/
theorem itOk_list {K : PySem.W.Frag} {ct : String → Addr} {v : Vw} {a : Addr} {vs : List V} {ds : List D} (h : SqL K v.G a vs) (r : RepL K ct v.G v.m ds vs) : ItOk K ct (Itl K a) v ds where
  go := fun i w l s hi => by
    obtain ⟨x, e, _⟩ := r.get (List.getElem?_eq_getElem hi)
    exact ⟨vs, x, s.sub.seq (l.g.seq h), e⟩
  stop := fun i w l s hi => ⟨vs, s.sub.seq (l.g.seq h), by rw [← r.length]; exact hi⟩
  yld := fun i w x H' l s hi y => by
    obtain ⟨x', e, rv⟩ := r.get (List.getElem?_eq_getElem hi)
    obtain ⟨rfl, y2⟩ := y
    have z := y2 vs (s.sub.seq (l.g.seq h))
    rw [e] at z
    cases z
    exact ⟨_, w, List.getElem?_eq_getElem hi, rfl, .refl, s, rfl, l.rep rv⟩
theorem itOk_tup {K : PySem.W.Frag} {ct : String → Addr} {v : Vw} {a : Addr} {vs : List V} {ds : List D} (h : SqT K v.G a vs) (r : RepL K ct v.G v.m ds vs) : ItOk K ct (Itt K a) v ds where
  go := fun i w l s hi => by
    obtain ⟨x, e, _⟩ := r.get (List.getElem?_eq_getElem hi)
    exact ⟨vs, x, sqt_mono s.sub (sqt_mono l.g h), e⟩
  stop := fun i w l s hi => ⟨vs, sqt_mono s.sub (sqt_mono l.g h), by rw [← r.length]; exact hi⟩
  yld := fun i w x H' l s hi y => by
    obtain ⟨x', e, rv⟩ := r.get (List.getElem?_eq_getElem hi)
    obtain ⟨rfl, y2⟩ := y
    have z := y2 vs (sqt_mono s.sub (sqt_mono l.g h))
    rw [e] at z
    cases z
    exact ⟨_, w, List.getElem?_eq_getElem hi, rfl, .refl, s, rfl, l.rep rv⟩
theorem itOk_str {K : PySem.W.Frag} {ct : String → Addr} {v : Vw} {x : Str} : ItOk K ct (Its x) v (signs x) where
  go := fun i w l s hi => by show i < x.cps.size; simpa [signs] using hi
  stop := fun i w l s hi => by show x.cps.size ≤ i; simpa [signs] using hi
  yld := fun i w z H' l s hi y => by
    obtain ⟨rfl, c, e, rfl⟩ := y
    refine ⟨.str ⟨#[c]⟩, w, ?_, rfl, .refl, s, rfl, .str _⟩
    simp [signs, e]
/-- the things of a list (frozen), a tuple, a text -/
def seqOf : D → Option (List D)
  | .lst xs => some xs
  | .tup xs => some xs
  | .str x => some (signs x)
  | _ => none
def iSeq (f : E) : As := fun δ s => (f δ s).bind fun d s1 => R.ofO (seqOf d) s1
theorem si_seq {e : Expr} {f : E} (he : SE X C e f) : SI X C tg e (iSeq f) := by
  refine ⟨fun pins s σ H Rr I ⟨δ, v, re, eH, h⟩ => ?_⟩
  unfold iSeq at h
  have hz := on_bind (rel := rE X.K C.ct) h
  cases q : f δ v.st with
  | stk => rw [q] at hz; exact hz.elim
  | exc e s1 => exact (pi_list he).run pins s σ H Rr I ⟨δ, v, re, eH, by rw [q] at hz ⊢; exact hz⟩
  | ok d s1 =>
    rw [q] at hz
    have go : ∀ (P : V → Vw → Prop), (∀ x v1, Le v v1 → SR X.K C.ct v1 → v1.st = s1 → Rep X.K C.ct v1.G v1.m d x → P x v1) → on X.K C σ v (rE X.K C.ct) (f δ v.st) fun _ x v' => P x v' := fun P w => by rw [q]; exact w
    cases d with
    | lst xs =>
      refine (pi_list he).run pins s σ H Rr I ⟨δ, v, re, eH, go _ fun x v1 l1 sr1 es r1 => ?_⟩
      have h9 := hz x v1 l1 sr1 es r1
      cases r1 with
      | @lst _ _ a vs _ p rl => exact ⟨a, rfl, ⟨vs, sr1.sub.seq p⟩, on_self sr1 h9 (itOk_list p rl)⟩
    | tup xs =>
      refine (pi_tup he).run pins s σ H Rr I ⟨δ, v, re, eH, go _ fun x v1 l1 sr1 es r1 => ?_⟩
      have h9 := hz x v1 l1 sr1 es r1
      cases r1 with
      | @tup _ _ a vs _ p rl => exact ⟨a, rfl, ⟨vs, sqt_mono sr1.sub p⟩, on_self sr1 h9 (itOk_tup p rl)⟩
    | str z =>
      refine (pi_str he).run pins s σ H Rr I ⟨δ, v, re, eH, go _ fun x v1 l1 sr1 es r1 => ?_⟩
      have h9 := hz x v1 l1 sr1 es r1
      cases r1
      exact ⟨z, rfl, on_self sr1 h9 itOk_str⟩
    | _ => exact (pi_list he).run pins s σ H Rr I ⟨δ, v, re, eH, go _ fun x v1 l1 sr1 es r1 => (hz x v1 l1 sr1 es r1).elim⟩
/-- the whole numbers lo, lo + 1, .. -/
def rngD (lo : Int) (n : Nat) : List D := (List.range n).map fun (i : Nat) => .int (lo + (i : Int))
theorem ints_get {lo : Int} {n i : Nat} (h : i < n) : (rngD lo n)[i]? = some (.int (lo + (i : Int))) := by simp [rngD, h]
theorem itOk_rng {K : PySem.W.Frag} {ct : String → Addr} {v : Vw} {lo : Int} {n : Nat} : ItOk K ct (Itr lo n) v (rngD lo n) where
  go := fun i w l s hi => by show i < n; simpa [rngD] using hi
  stop := fun i w l s hi => by show n ≤ i; simpa [rngD] using hi
  yld := fun i w z H' l s hi y => by
    obtain ⟨rfl, rfl⟩ := y
    exact ⟨_, w, ints_get (by simpa [rngD] using hi), rfl, .refl, s, rfl, .int _⟩
def iRange1 (a : As) : As := fun δ s => (a δ s).bind fun ds s1 => match ds with
  | [.int j] => if -(2 ^ 62) ≤ j ∧ j < 2 ^ 62 then .ok (rngD 0 j.toNat) s1 else .stk
  | _ => .stk
def iRange2 (a : As) : As := fun δ s => (a δ s).bind fun ds s1 => match ds with
  | [.int i, .int j] => if -(2 ^ 62) ≤ i ∧ i < 2 ^ 62 ∧ -(2 ^ 62) ≤ j ∧ j < 2 ^ 62 then .ok (rngD i (j - i).toNat) s1 else .stk
  | _ => .stk
theorem si_range1 {a : Expr} {f : As} {p pos : Pos} (hg : Gl X "range") (hm : X.mg "range" = none) (ha : SA X C [a] f) (hs : starEach [a] X.env = [(false, eval a X.env)] := by rfl) : SI X C tg (.Call (.Name "range" p) [a] [] pos) (iRange1 f) :=
  pi_weak (pi_range1 hg hm ha hs) fun σ H P ⟨δ, v, re, eH, h⟩ => ⟨δ, v, re, eH, on_mono (on_bind h) fun ds vs v1 l1 s1 r1 h1 => by
    split at h1
    · rename_i j
      cases r1 with
      | cons r2 r3 =>
        cases r2; cases r3
        split at h1
        · rename_i hz
          exact ⟨j, rfl, hz.1, hz.2, on_self s1 h1 itOk_rng⟩
        · exact h1.elim
    · exact h1.elim⟩
theorem si_range2 {a b : Expr} {f : As} {p pos : Pos} (hg : Gl X "range") (hm : X.mg "range" = none) (ha : SA X C [a, b] f) (hs : starEach [a, b] X.env = [(false, eval a X.env), (false, eval b X.env)] := by rfl) (hs2 : starEach [b] X.env = [(false, eval b X.env)] := by rfl) :
    SI X C tg (.Call (.Name "range" p) [a, b] [] pos) (iRange2 f) :=
  pi_weak (pi_range2 hg hm ha hs hs2) fun σ H P ⟨δ, v, re, eH, h⟩ => ⟨δ, v, re, eH, on_mono (on_bind h) fun ds vs v1 l1 s1 r1 h1 => by
    split at h1
    · rename_i i j
      cases r1 with
      | cons r2 r3 =>
        cases r3 with
        | cons r3 r4 =>
          cases r2; cases r3; cases r4
          split at h1
          · rename_i hz
            exact ⟨i, j, rfl, hz, on_self s1 h1 itOk_rng⟩
          · exact h1.elim
    · exact h1.elim⟩
end

/-! ### while -/
def whileD (c : T) (body : S) : Nat → Sl → Sto → RS
  | 0, _, _ => .stk
  | n + 1, δ, s => match c δ s with
    | .ok true s1 => match body δ s1 with
      | .nx δ2 s2 => whileD c body n δ2 s2
      | .ct δ2 s2 => whileD c body n δ2 s2
      | .bk δ2 s2 => .nx δ2 s2
      | r => r
    | .ok false s1 => .nx δ s1
    | .exc e s1 => .exc e δ s1
    | .stk => .stk
section
variable {X : Cx} {C : Cc} {pos : Pos}
theorem ss_while (n : Nat) {c : Expr} {body : List Stmt} {t : T} {fb : S} (hp : PassesOwn (model X.prog X.w) X.A X.env X.xe) (hc : ST X C c t) (hb : SSs X C body fb) : SS X C (.While c body [] pos) (whileD t fb n) :=
  ps_weak (ps_while hp hc hb) fun Dn σ H ⟨δ, v, re, eH, h⟩ => by
    refine ⟨fun m σ H => ∃ δ v, RE X.K C σ δ v ∧ v.H = H ∧ onS X.K C v (whileD t fb m δ v.st) Dn, ⟨n, δ, v, re, eH, h⟩, ?_⟩
    rintro m σ2 H2 ⟨δ2, w, re2, rfl, q⟩
    cases m with
    | zero => exact q.elim
    | succ m =>
      simp only [whileD] at q
      refine ⟨δ2, w, re2, rfl, ?_⟩
      cases e : t δ2 w.st with
      | stk => rw [e] at q; exact q.elim
      | exc ex s1 => rw [e] at q; exact onX_of re2 q
      | ok b s1 =>
        rw [e] at q
        intro b2 w3 l3 s3 es eb
        cases eb
        cases b with
        | false =>
          rw [if_neg Bool.false_ne_true]
          exact q σ2 w3 (re2.step l3 s3) l3 es
        | true =>
          rw [if_pos rfl]
          refine ⟨fun σ H => ∃ δ v, RE X.K C σ δ v ∧ v.H = H ∧ onS X.K C v (whileD t fb m δ v.st) Dn, fun σ' H' z => ⟨m, Nat.lt_succ_self _, z⟩, δ2, w3, re2.step l3 s3, rfl, ?_⟩
          simp only at q
          subst es
          cases ef : fb δ2 w3.st with
          | nx δ4 s4 => rw [ef] at q; exact fun σ' w' re' l' es => ⟨δ4, w', re', rfl, by subst es; exact onS_same (l3.trans l') q⟩
          | ct δ4 s4 => rw [ef] at q; exact fun σ' w' re' l' es => ⟨δ4, w', re', rfl, by subst es; exact onS_same (l3.trans l') q⟩
          | bk δ4 s4 => rw [ef] at q; exact fun σ' w' re' l' es => q σ' w' re' (l3.trans l') es
          | rt d s4 => rw [ef] at q; exact q
          | exc e4 δ4 s4 => rw [ef] at q; exact fun cls dd σ' w' re' l' es rx => q cls dd σ' w' re' (l3.trans l') es rx
          | stk => rw [ef] at q; exact q
end
end Gs

/-! G6: defs by their function over data and store, calls, new lists, comprehensions, methods of lists. -/
namespace Gs
open PySem L2

/-- a def's promise: what its function says of the arguments' data and the store -/
def spG (K : PySem.W.Frag) (ct : String → Addr) (n : Nat) (F : List D → Sto → R D) : Sp := fun vs H Q E => ∃ v ds, v.H = H ∧ SR K ct v ∧ ds.length = n ∧ RepL K ct v.G v.m ds vs ∧ match F ds v.st with
  | .ok d s => ∀ x v', Le v v' → SR K ct v' → v'.st = s → Rep K ct v'.G v'.m d x → Q x v'.H
  | .exc e s => ∀ cls dd v', Le v v' → SR K ct v' → v'.st = s → RepX K ct v' e cls dd → E cls dd v'.H
  | .stk => False
/-- a body as a function of the arguments: N names -/
def runG (N : Nat) (body : S) (ds : List D) (s : Sto) : R D := match body (ds.map some ++ List.replicate (N - ds.length) none) s with
  | .nx _ s' => .ok .non s'
  | .rt d s' => .ok d s'
  | .exc e _ s' => .exc e s'
  | _ => .stk
theorem re_start {K : PySem.W.Frag} {C : Cc} {v : Vw} {ds : List D} {vs : List V} {N : List Str} (l : Le C.v0 v) (sr : SR K C.ct v) (r : RepL K C.ct v.G v.m ds vs) (hn : ds.length ≤ N.length) : RE K C (L2.start N vs) (ds.map some ++ List.replicate (N.length - ds.length) none) v := by
  have hl := r.length
  refine ⟨l, sr, by simp [L2.start]; omega, fun i d hs => ?_⟩
  unfold L2.start
  by_cases h : i < ds.length
  · rw [List.getElem?_append_left (by simpa using h)] at hs
    rw [List.getElem?_append_left (by simp; omega)]
    obtain ⟨x, e1, r1⟩ := r.get (List.getElem?_eq_getElem h)
    rw [List.getElem?_map, List.getElem?_eq_getElem h] at hs
    rw [List.getElem?_map, e1]
    cases hs
    exact ⟨x, rfl, r1⟩
  · rw [List.getElem?_append_right (by simpa using h)] at hs
    rw [List.getElem?_replicate] at hs
    split at hs
    · cases hs
    · exact nomatch hs
section
variable {P : Program} {w : World} {K : PySem.W.Frag} {mg : Str → Option Value} {base : Heap} {ct : String → Addr}
/-- a def of the text keeps the promise of its body's function -/
theorem fn_ok {x qual : Str} {st : Stmt} {f : Addr} {fd : FuncData} {N ps : List Str} {k : Nat} {body : S} (F : L2.Fun K x qual st f fd) (sc : FnScope N ps (defScope st)) (hn : ps.length ≤ N.length)
    (hb : ∀ (cdv : Value) (A : Around) (outer : List Env) (s : Shared) (H : Hp) (v : Vw) (E : XK), Room k (A.deeper (PyProof.Rows.envOfC qual (defScope st) s.heap.objs.size f cdv)) →
      SSs (cxOf (L2.CX P w) P w K mg base N qual (defScope st) f cdv A outer s H E) ⟨v, ct, fun cls d _ H => E cls d H⟩ (defBody st) body) :
    FnOk P w K mg base (L2.CX P w) (k + 1) f fd ps (spG K ct ps.length (runG N.length body)) := by
  refine F.okX sc (fun vs H Q E ⟨v, ds, e, sr, l, r, _⟩ => by rw [← l, r.length]) (fun cdv A outer s H vs Q E hr ⟨v, ds, e, sr, l, r, h⟩ => ⟨_, hb cdv A outer s H v E hr, ?_⟩)
  subst e
  have rs : RE K ⟨v, ct, fun cls d _ H => E cls d H⟩ (L2.start N vs) (ds.map some ++ List.replicate (N.length - ds.length) none) v := re_start .refl sr r (by omega)
  refine ⟨_, v, rs, rfl, ?_⟩
  unfold runG at h
  cases e : body (ds.map some ++ List.replicate (N.length - ds.length) none) v.st with
  | nx δ s => rw [e] at h; exact fun σ' v' re l es => h .non v' l re.sr es .non
  | rt d s => rw [e] at h; exact fun x v' l sr' es r => h x v' l sr' es r
  | exc e2 δ s => rw [e] at h; exact fun cls dd σ' v' re l es rx => h cls dd v' l re.sr es rx
  | bk δ s => rw [e] at h; exact h.elim
  | ct δ s => rw [e] at h; exact h.elim
  | stk => rw [e] at h; exact h.elim
theorem fn_zero {f : Addr} {fd : FuncData} {ps : List Str} : FnOk P w K mg base (L2.CX P w) 0 f fd ps (spG K ct ps.length fun _ _ => .stk) :=
  ⟨fun vs H Q E ⟨v, ds, e, sr, l, r, h⟩ => h.elim, fun A outer s H args us vs Q E _ _ _ _ ⟨v, ds, e, sr, l, r, h⟩ => h.elim⟩
end

/-! ### calls -/
def eCall (F : List D → Sto → R D) (a : As) : E := fun δ s => (a δ s).bind F
/-- an argument list gives as many as it has -/
def LenA (fa : As) (n : Nat) : Prop := ∀ δ s ds s', fa δ s = .ok ds s' → ds.length = n
theorem lenA_nil : LenA aNil 0 := fun δ s ds s' h => by cases h; rfl
theorem lenA_cons {f : E} {r : As} {n : Nat} (h : LenA r n) : LenA (aCons f r) (n + 1) := fun δ s ds s' e => by
  unfold aCons at e
  cases q : f δ s with
  | stk => rw [q] at e; exact nomatch e
  | exc e2 s2 => rw [q] at e; exact nomatch e
  | ok d s2 =>
    rw [q] at e
    cases q2 : r δ s2 with
    | stk => simp only [R.bind, q2] at e; exact nomatch e
    | exc e2 s3 => simp only [R.bind, q2] at e; exact nomatch e
    | ok xs s3 =>
      simp only [R.bind, q2, R.ok.injEq] at e
      rw [← e.1]
      simp [h δ s2 xs s3 q2]
theorem on_eq {α β : Type} {K : PySem.W.Frag} {C : Cc} {σ : L2.St} {v : Vw} {rel : α → β → Vw → Prop} {r : R α} {P : α → β → Vw → Prop} (h : on K C σ v rel r P) : on K C σ v rel r fun a b v' => P a b v' ∧ ∃ s, r = .ok a s := by
  cases r with
  | ok a s => exact fun b v' l sr e q => ⟨h b v' l sr e q, s, rfl⟩
  | exc e s => exact h
  | stk => exact h
section
variable {X : Cx} {C : Cc} {pos p : Pos} {x : Str} {e : Expr} {es : List Expr} {fa : As} {k n : Nat} {f : Addr} {fd : FuncData} {ps : List Str} {F : List D → Sto → R D}
theorem on_sp {K : PySem.W.Frag} {σ : L2.St} {v : Vw} {ds : List D} {vs : List V} {Q : VK} (sr : SR K C.ct v) (hl : ds.length = n) (r : RepL K C.ct v.G v.m ds vs) (h : on K C σ v (rE K C.ct) (F ds v.st) fun _ x v' => Q x v'.H) : spG K C.ct n F vs v.H Q (WE C.W σ) := by
  refine ⟨v, ds, rfl, sr, hl, r, ?_⟩
  cases q : F ds v.st with
  | ok d s => rw [q] at h; exact h
  | exc e s => rw [q] at h; exact h
  | stk => rw [q] at h; exact h
theorem se_call (hF : FnOk X.prog X.w X.K X.mg X.base (L2.CX X.prog X.w) k f fd ps (spG X.K C.ct n F)) (hr : Room k X.A) (tk : Takes X C.W) (hg : Gl X x) (hm : X.mg x = some (.ref f)) (hk : PySem.W.keepIn X.K (.ref f) = true) (hb : Binds X.K fd ps [])
    (ha : SA X C (e :: es) fa) (hl : LenA fa n) (hdb : (x == ("__debug__" : Str)) = false := by decide) (he : starEach (e :: es) X.env = (false, eval e X.env) :: starEach es X.env := by rfl) (hpl : (backTo pos (starEach es X.env)).any (·.1) = false := by rfl) :
    SE X C (.Call (.Name x p) (e :: es) [] pos) (eCall F fa) :=
  pe_weak (pe_callS hF hr hg hm hk hb (fun σ => passAt tk σ) ha hdb he hpl) fun σ H Q ⟨δ, v, re, eH, h⟩ => ⟨δ, v, re, eH, on_mono (on_eq (on_bind h)) fun ds vs v1 l1 s1 r1 h1 => by
    obtain ⟨h1, s, q⟩ := h1
    exact on_sp s1 (hl _ _ _ _ q) r1 h1⟩
end

/-! ### new lists -/
def onF (K : PySem.W.Frag) (C : Cc) (σ : L2.St) (v : Vw) (r : R (List D)) (P : List D → Addr → Vw → Prop) : Prop := match r with
  | .ok xs s => ∀ p vs v', Le v v' → SR K C.ct v' → v'.st = s → v.H p = none → v'.G p = none → v'.H p = some (.lst vs) → ¬ v'.owns p → RepL K C.ct v'.G v'.m xs vs → P xs p v'
  | .exc e s => onX K C σ v e s
  | .stk => False
abbrev Fr := Sl → Sto → R (List D)
def liftF (K : PySem.W.Frag) (C : Cc) (f : Fr) : TE := fun σ H Q => ∃ δ v, RE K C σ δ v ∧ v.H = H ∧ onF K C σ v (f δ v.st) fun _ p v' => Q (.ref p) v'.H
abbrev SF (X : Cx) (C : Cc) (e : Expr) (f : Fr) : Prop := PE X e (liftF X.K C f)
/-- a new list, frozen; a thing of the store -/
def eFz (f : Fr) : E := fun δ s => (f δ s).bind fun xs s1 => .ok (.lst xs) s1
def eNw (f : Fr) : E := fun δ s => (f δ s).bind fun xs s1 => .ok (.ob s1.length) (s1 ++ [.lst xs])
section
variable {K : PySem.W.Frag} {ct : String → Addr}
theorem owns_same {G G' H H' : Hp} {m : Nat → Option Addr} {st : Sto} {b : Addr} (hh : ∀ (i : Nat) (o : O) (a : Addr), st[i]? = some o → o.live = true → m i = some a → ∀ C fs dx, H' a = some (.ins C dx fs) → H a = some (.ins C dx fs)) (h : (Vw.mk G' H' m st).owns b) : (Vw.mk G H m st).owns b := by
  obtain ⟨i, o, a, e, l, em, z⟩ := h
  refine ⟨i, o, a, e, l, em, z.imp id fun ⟨C, fs, q⟩ => ⟨C, fs, hh i o a e l em C fs b q⟩⟩
/-- a new object that is none of the store's, frozen -/
theorem frz_new {v v' : Vw} {p : Addr} {u : HO} (l : Le v v') (s : SR K ct v') (hp : v.H p = none) (gp : v'.G p = none) (hu : v'.H p = some u) (no : ¬ v'.owns p) : Le v ⟨upd v'.G p u, v'.H, v'.m, v'.st⟩ ∧ SR K ct ⟨upd v'.G p u, v'.H, v'.m, v'.st⟩ := by
  have sg := same_new gp u
  refine ⟨⟨l.g.trans sg, l.m, l.h, fun b q => ?_, fun b q => l.ow b (owns_same (fun _ _ _ _ _ _ _ _ _ z => z) q), l.al⟩, fun b w q => ?_, s.dom, fun i o e lv => ?_, s.inj, fun i kvs e => FkR.mono (v := v') (v' := ⟨upd v'.G p u, v'.H, v'.m, v'.st⟩) sg .refl (s.fk i kvs e)⟩
  · by_cases z : b = p
    · exact .inr (.inl (z ▸ hp))
    · have q' : upd v'.G p u b ≠ none := q
      rw [upd_ne z] at q'
      exact l.nw b q'
  · have q' : upd v'.G p u b = some w := q
    by_cases z : b = p
    · rw [z, upd_same] at q'
      cases q'
      show v'.H b = some u
      rw [z]
      exact hu
    · rw [upd_ne z] at q'
      exact s.sub _ _ q'
  · obtain ⟨a, em, ga, r⟩ := s.obj i o e lv
    have na : a ≠ p := fun z => no ⟨i, o, a, e, lv, em, .inl z.symm⟩
    exact ⟨a, em, (upd_ne na).trans ga, r.mono' (v := v') sg .refl rfl fun C dx fs q0 q1 q2 => ⟨rfl, (upd_ne fun z => no ⟨i, o, a, e, lv, em, .inr ⟨C, fs, by rw [← z]; exact q0⟩⟩).trans q2⟩⟩
/-- a new list, from here on the store's -/
theorem adopt {v v' : Vw} {p : Addr} {xs : List D} {vs : List V} (l : Le v v') (s : SR K ct v') (hp : v.H p = none) (gp : v'.G p = none) (hu : v'.H p = some (.lst vs)) (no : ¬ v'.owns p) (r : RepL K ct v'.G v'.m xs vs) :
    Le v (v'.alloc p v'.H (.lst xs)) ∧ SR K ct (v'.alloc p v'.H (.lst xs)) := by
  have m0 : v'.m v'.st.length = none := s.dom _ (Nat.le_refl _)
  have gr : Grow v'.m (mset v'.m v'.st.length p) := mset_grow m0
  have get : ∀ {i : Nat} {u : O}, (v'.alloc p v'.H (.lst xs)).st[i]? = some u → (i < v'.st.length ∧ v'.st[i]? = some u) ∨ (i = v'.st.length ∧ u = .lst xs) := fun e => get_snoc e
  have np : ∀ {i : Nat} {u : O} {a : Addr}, v'.st[i]? = some u → u.live = true → v'.m i = some a → a ≠ p := fun {i u a} e lv em z => no ⟨i, u, a, e, lv, em, .inl z.symm⟩
  refine ⟨⟨l.g, l.m.trans gr, l.h, l.nw, fun b ⟨i, u, a, e, lv, em, q⟩ => ?_, l.al⟩, s.sub, fun i hi => ?_, fun i u e lv => ?_, fun i j u w a e1 e2 l1 l2 m1 m2 => ?_, fun i kvs e => ?_⟩
  · have em' : mset v'.m v'.st.length p i = some a := em
    rcases get e with ⟨z, e⟩ | ⟨rfl, rfl⟩
    · rw [mset_ne (Nat.ne_of_lt z)] at em'
      exact l.ow b ⟨i, u, a, e, lv, em', q⟩
    · rw [mset_same] at em'
      cases em'
      rcases q with rfl | ⟨C, fs, q⟩
      · exact .inr hp
      · have q' : v'.H p = some (.ins C b fs) := q
        rw [hu] at q'
        cases q'
  · have hl : v'.st.length + 1 ≤ i := by simpa [Vw.alloc] using hi
    show mset v'.m v'.st.length p i = none
    rw [mset_ne (by omega)]
    exact s.dom i (by omega)
  · rcases get e with ⟨z, e⟩ | ⟨rfl, rfl⟩
    · obtain ⟨a, em, ga, r⟩ := s.obj i u e lv
      exact ⟨a, (mset_ne (Nat.ne_of_lt z)).trans em, ga, r.mono' (v := v') (v' := v'.alloc p v'.H (.lst xs)) (Same.refl _) gr rfl fun C dx fs _ q1 q2 => ⟨rfl, q2⟩⟩
    · exact ⟨p, mset_same, gp, vs, hu, r.mono (Same.refl _) gr⟩
  · have m1' : mset v'.m v'.st.length p i = some a := m1
    have m2' : mset v'.m v'.st.length p j = some a := m2
    rcases get e1 with ⟨z1, f1⟩ | ⟨y1, f1⟩ <;> rcases get e2 with ⟨z2, f2⟩ | ⟨y2, f2⟩
    · rw [mset_ne (Nat.ne_of_lt z1)] at m1'
      rw [mset_ne (Nat.ne_of_lt z2)] at m2'
      exact s.inj i j u w a f1 f2 l1 l2 m1' m2'
    · rw [mset_ne (Nat.ne_of_lt z1)] at m1'
      rw [y2, mset_same] at m2'
      cases m2'
      exact absurd rfl (np f1 l1 m1')
    · rw [mset_ne (Nat.ne_of_lt z2)] at m2'
      rw [y1, mset_same] at m1'
      cases m1'
      exact absurd rfl (np f2 l2 m2')
    · rw [y1, y2]
  · rcases get e with ⟨_, f⟩ | ⟨_, f⟩
    · exact FkR.mono (v := v') (v' := v'.alloc p v'.H (.lst xs)) (Same.refl _) gr (s.fk i kvs f)
    · cases f
/-- what is none of the store's, and not frozen, may be changed aside -/
theorem side_ok {v : Vw} {p : Addr} {u : HO} (s : SR K ct v) (gp : v.G p = none) (no : ¬ v.owns p) : SR K ct ⟨v.G, upd v.H p u, v.m, v.st⟩ ∧ ∀ b, (Vw.mk v.G (upd v.H p u) v.m v.st).owns b → v.owns b := by
  have np : ∀ {i : Nat} {o : O} {a : Addr}, v.st[i]? = some o → o.live = true → v.m i = some a → a ≠ p := fun {i o a} e lv em z => no ⟨i, o, a, e, lv, em, .inl z.symm⟩
  refine ⟨⟨fun b w q => ?_, s.dom, fun i o e lv => ?_, s.inj, fun i kvs e => FkR.mono (v := v) (v' := ⟨v.G, upd v.H p u, v.m, v.st⟩) (Same.refl _) .refl (s.fk i kvs e)⟩, fun b q => owns_same (fun i o a e lv em C fs dx z => by rwa [upd_ne (np e lv em)] at z) q⟩
  · have q' : v.G b = some w := q
    have z : b ≠ p := fun z => by rw [z, gp] at q'; cases q'
    show upd v.H p u b = some w
    rw [upd_ne z]
    exact s.sub _ _ q'
  · obtain ⟨a, em, ga, r⟩ := s.obj i o e lv
    exact ⟨a, em, ga, r.mono' (v := v) (Same.refl _) .refl (upd_ne (np e lv em)) fun C dx fs q0 q1 q2 => ⟨upd_ne fun z => no ⟨i, o, a, e, lv, em, .inr ⟨C, fs, by rw [← z]; exact q0⟩⟩, q2⟩⟩
end
section
variable {X : Cx} {C : Cc} {pos : Pos} {e : Expr} {es : List Expr} {f : Fr} {r : As}
theorem lift_fz {K : PySem.W.Frag} {σ : L2.St} {H : Hp} {Q : VK} (h : liftE K C (eFz f) σ H Q) : liftF K C f σ H Q := by
  obtain ⟨δ, v, re, eH, h⟩ := h
  refine ⟨δ, v, re, eH, ?_⟩
  unfold eFz at h
  cases q : f δ v.st with
  | stk => rw [q] at h; exact h
  | exc e s => rw [q] at h; exact h
  | ok xs s =>
    rw [q] at h
    intro p vs v' l sr es hp gp hh no r
    obtain ⟨l2, s2⟩ := frz_new l sr hp gp hh no
    exact h (.ref p) ⟨upd v'.G p (.lst vs), v'.H, v'.m, v'.st⟩ l2 s2 es (.lst (SqL.of upd_same) (r.mono (same_new gp _) .refl))
theorem lift_nw {K : PySem.W.Frag} {σ : L2.St} {H : Hp} {Q : VK} (h : liftE K C (eNw f) σ H Q) : liftF K C f σ H Q := by
  obtain ⟨δ, v, re, eH, h⟩ := h
  refine ⟨δ, v, re, eH, ?_⟩
  unfold eNw at h
  cases q : f δ v.st with
  | stk => rw [q] at h; exact h
  | exc e s => rw [q] at h; exact h
  | ok xs s =>
    rw [q] at h
    intro p vs v' l sr es hp gp hh no r
    obtain ⟨l2, s2⟩ := adopt l sr hp gp hh no r
    subst es
    exact h (.ref p) (v'.alloc p v'.H (.lst xs)) l2 s2 rfl (.ob mset_same)
theorem SF.fz (h : SF X C e f) : SE X C e (eFz f) := pe_weak h fun σ H Q z => lift_fz z
theorem SF.nw (h : SF X C e f) : SE X C e (eNw f) := pe_weak h fun σ H Q z => lift_nw z
theorem onF_bind {α β : Type} {K : PySem.W.Frag} {σ : L2.St} {v : Vw} {rel : α → β → Vw → Prop} {r : R α} {k : α → Sto → R (List D)} {P : List D → Addr → Vw → Prop} (h : onF K C σ v (r.bind k) P) : on K C σ v rel r fun a _ v1 => onF K C σ v1 (k a v1.st) P := by
  cases r with
  | ok a s =>
    intro b v1 l sr e q
    subst e
    have h' : onF K C σ v (k a v1.st) P := h
    show onF K C σ v1 (k a v1.st) P
    cases e : k a v1.st with
    | ok xs s2 =>
      rw [e] at h'
      intro p vs v2 l2 sr2 es hp gp hh no rr
      exact h' p vs v2 (l.trans l2) sr2 es (l.al p hp) gp hh no rr
    | exc e2 s2 => rw [e] at h'; exact fun cls dd w l2 => h' cls dd w (l.trans l2)
    | stk => rw [e] at h'; exact h'
  | exc e s => exact h
  | stk => exact h
end
end Gs

/-! G7: new lists: displays, list(..), comprehensions. -/
namespace Gs
open PySem L2
section
variable {X : Cx} {C : Cc} {pos : Pos} {e : Expr} {es : List Expr} {f : Fr} {r : As}
theorem newH {K : PySem.W.Frag} {ct : String → Addr} {v : Vw} {p : Addr} {u : HO} (sr : SR K ct v) (hp : v.H p = none) : Le v ⟨v.G, upd v.H p u, v.m, v.st⟩ ∧ SR K ct ⟨v.G, upd v.H p u, v.m, v.st⟩ ∧ ¬ (Vw.mk v.G (upd v.H p u) v.m v.st).owns p := by
  obtain ⟨l, s⟩ := more_ok sr (same_new hp u)
  refine ⟨l, s, fun q => ?_⟩
  obtain ⟨i, o, a, e, lv, em, z⟩ := q
  obtain ⟨_, w, hw, _⟩ := sr.obj_ne e lv em
  have na : a ≠ p := ne_of_none hw hp
  rcases z with z | ⟨C, fs, z⟩
  · exact na z.symm
  · have z' : upd v.H p u a = some (.ins C p fs) := z
    rw [upd_ne na] at z'
    obtain ⟨h1, _⟩ := sr.dx e lv em z'
    rw [hp] at h1
    cases h1
def fLst (r : As) : Fr := fun δ s => (r δ s).bind fun xs s1 => if xs.length ≤ sizeLine then .ok xs s1 else .stk
theorem sf_lst (h : SA X C es r) : SF X C (.List es pos) (fLst r) := pe_weak (pe_lst h) fun σ H Q ⟨δ, v, re, eH, h⟩ =>
  ⟨δ, v, re, eH, on_mono (onF_bind h) fun ds vs v1 l1 s1 r1 h1 => by
    have hl := r1.length
    by_cases z : ds.length ≤ sizeLine
    · rw [if_pos z] at h1
      refine ⟨by omega, fun p hp => ?_⟩
      obtain ⟨l2, s2, no⟩ := newH (u := .lst vs) s1 hp
      exact h1 p vs ⟨v1.G, upd v1.H p (.lst vs), v1.m, v1.st⟩ l2 s2 rfl hp (s1.free hp) upd_same no r1
    · rw [if_neg z] at h1
      exact h1.elim⟩
/-- list(x) -/
def fList (f : E) : Fr := fun δ s => (f δ s).bind fun d s1 => match rsv s1 d with
  | .lst xs => .ok xs s1
  | .tup xs => .ok xs s1
  | .str x => if x.length ≤ sizeLine then .ok (signs x) s1 else .stk
  | _ => .stk
theorem sf_list (hc : X.calm = true) {x : Str} {p : Pos} {a : Expr} {fa : E} (hx : x = "list") (hg : Gl X x) (hm : X.mg x = none) (ha : SE X C a fa) (hv : bootBuiltins x = some (.type "list")) (hn : x ≠ "__name__" := by decide) (hdb : (x == ("__debug__" : Str)) = false := by decide)
    (he : starEach [a] X.env = (false, eval a X.env) :: starEach [] X.env := by rfl) (hpl : (backTo pos (starEach [] X.env)).any (·.1) = false := by rfl) : SF X C (.Call (.Name x p) [a] [] pos) (fList fa) :=
  ⟨fun pins s σ H Q I ⟨δ, v, re, eH, h⟩ => by
    have go : ∀ (v1 : Vw) (vs : List V) (ds : List D) (c : Addr), Le v v1 → SR X.K C.ct v1 → v1.H c = none → RepL X.K C.ct v1.G v1.m ds vs → onF X.K C σ v1 (.ok ds v1.st) (fun _ p v' => Q (.ref p) v'.H) → Q (.ref c) (upd v1.H c (.lst vs)) := fun v1 vs ds c _ s1 hc rr hh => by
      obtain ⟨l2, s2, no⟩ := newH (u := .lst vs) s1 hc
      exact hh c vs ⟨v1.G, upd v1.H c (.lst vs), v1.m, v1.st⟩ l2 s2 rfl hc (s1.free hc) upd_same no rr
    have hz := onF_bind (rel := rE X.K C.ct) h
    have P1 : PE X (.Call (.Name x p) [a] [] pos) _ := pe_callTy call_list_of hg hm hv (pa_cons ha pa_nil he) hn hdb he hpl
    have seqs : (on X.K C σ v (rE X.K C.ct) (fa δ v.st) fun _ x v' => ∃ p ys, x = .ref p ∧ (SqL X.K v'.H p ys ∨ SqT X.K v'.H p ys) ∧ ∀ l, v'.H l = none → Q (.ref l) (upd v'.H l (.lst ys))) → _ := fun z => P1.run pins s σ H Q I ⟨δ, v, re, eH, on_mono z fun _ x v' _ _ _ ⟨p, ys, e, w⟩ => ⟨p, ys, by rw [e], w⟩⟩
    cases q : fa δ v.st with
    | stk => rw [q] at hz; exact hz.elim
    | exc e s1 => exact seqs (by rw [q] at hz ⊢; exact hz)
    | ok d s1 =>
      rw [q] at hz
      cases z : rsv s1 d with
      | lst xs =>
        refine seqs ?_
        rw [q]
        intro x v1 l1 sr1 es r1
        have h1 := hz x v1 l1 sr1 es r1
        have t := r1.top sr1
        subst es
        simp only [z] at h1
        rw [z] at t
        cases t with
        | @lst a vs _ p q => exact ⟨a, vs, rfl, .inl p, fun c hc => go v1 _ _ c l1 sr1 hc q h1⟩
      | tup xs =>
        refine seqs ?_
        rw [q]
        intro x v1 l1 sr1 es r1
        have h1 := hz x v1 l1 sr1 es r1
        have t := r1.top sr1
        subst es
        simp only [z] at h1
        rw [z] at t
        cases t with
        | @tup a vs _ p q => exact ⟨a, vs, rfl, .inr (sqt_mono sr1.sub p), fun c hc => go v1 _ _ c l1 sr1 hc q h1⟩
      | str y =>
        refine (pe_callTy (call_list_text hc) hg hm hv (pa_cons ha pa_nil he) hn hdb he hpl).run pins s σ H Q I ⟨δ, v, re, eH, ?_⟩
        rw [q]
        intro x v1 l1 sr1 es r1
        have h1 := hz x v1 l1 sr1 es r1
        have t := r1.top sr1
        subst es
        simp only [z] at h1
        rw [z] at t
        cases t
        split at h1
        · rename_i hy
          exact ⟨y, rfl, hy, fun c hc => go v1 _ _ c l1 sr1 hc (RepL.signs y) h1⟩
        · exact h1.elim
      | _ =>
        refine seqs ?_
        rw [q]
        intro x v1 l1 sr1 es r1
        have h1 := hz x v1 l1 sr1 es r1
        subst es
        simp only [z] at h1
        exact h1.elim⟩
end
/-! ### comprehensions -/
def wipeD (δ : Sl) : List Nat → Sl
  | [] => δ
  | v :: vs => (wipeD δ vs).set v none
theorem RE.wipe {K : PySem.W.Frag} {C : Cc} {σ : L2.St} {δ : Sl} {v : Vw} (r : RE K C σ δ v) : ∀ vs : List Nat, RE K C (L2.wipe σ vs) (wipeD δ vs) v
  | [] => r
  | i :: vs => (RE.wipe r vs).setU i none
theorem RE.wish {K : PySem.W.Frag} {C : Cc} {σ : L2.St} {δ : Sl} {v : Vw} (r : RE K C σ δ v) (W : WX) : RE K { C with W := W } σ δ v := ⟨r.le, r.sr, r.len, r.sl⟩
theorem wipe_get (σ : L2.St) : ∀ (vs : List Nat) (j : Nat), (L2.wipe σ vs)[j]? = if j ∈ vs ∧ j < σ.length then some none else σ[j]?
  | [], j => by simp [L2.wipe]
  | v :: vs, j => by
    unfold L2.wipe
    by_cases e : v = j
    · subst e
      by_cases h : v < σ.length
      · rw [List.getElem?_set_self (by rw [wipe_length]; exact h), if_pos ⟨List.mem_cons_self .., h⟩]
      · rw [if_neg fun z => h z.2, List.getElem?_eq_none (by rw [List.length_set, wipe_length]; omega), List.getElem?_eq_none (by omega)]
    · rw [List.getElem?_set_ne e, wipe_get σ vs j]
      have : (j ∈ v :: vs) ↔ j ∈ vs := by simp [Ne.symm e]
      simp only [this]
theorem wipe_off {is vs : List Nat} {σ σ' : L2.St} (o : Off is (L2.wipe σ vs) σ') (h : ∀ i ∈ is, i ∈ vs) : L2.wipe σ' vs = L2.wipe σ vs := by
  have hl : σ'.length = σ.length := by rw [o.1, wipe_length]
  apply List.ext_getElem?
  intro j
  rw [wipe_get, wipe_get, hl]
  by_cases hj : j ∈ vs ∧ j < σ.length
  · rw [if_pos hj, if_pos hj]
  · rw [if_neg hj, if_neg hj]
    by_cases hj2 : j ∈ vs
    · have : ¬ j < σ.length := fun z => hj ⟨hj2, z⟩
      rw [List.getElem?_eq_none (by omega), List.getElem?_eq_none (by omega)]
    · rw [o.2 j fun z => hj2 (h j z), wipe_get, if_neg hj]
abbrev Cc.nox (C : Cc) : Cc := { C with W := fun _ _ _ _ => False }
/-- what the turns give -/
def lcD (p : Pt) (c : T) (e : E) (δ : Sl) : List D → Sto → R (List D)
  | [], s => .ok [] s
  | d :: ds, s => match bindP p d δ with
    | none => .stk
    | some δ1 => match c δ1 s with
      | .ok true s1 => (match e δ1 s1 with
        | .ok y s2 => (match lcD p c e δ ds s2 with
          | .ok r s3 => .ok (y :: r) s3
          | _ => .stk)
        | _ => .stk)
      | .ok false s1 => lcD p c e δ ds s1
      | _ => .stk
theorem lcD_exc {p : Pt} {c : T} {e : E} {δ : Sl} : ∀ (ds : List D) (s : Sto) (ex : Ex) (s' : Sto), lcD p c e δ ds s ≠ .exc ex s'
  | [], s, ex, s', z => nomatch z
  | d :: ds, s, ex, s', z => by
    simp only [lcD] at z
    split at z
    · exact nomatch z
    · split at z
      · split at z
        · split at z <;> exact nomatch z
        · exact nomatch z
      · exact lcD_exc ds _ _ _ z
      · exact nomatch z
def fLc (it : As) (vs : List Nat) (p : Pt) (c : T) (e : E) : Fr := fun δ s => (it δ s).bind fun items s1 => (lcD p c e (wipeD δ vs) items s1).bind fun xs s2 => if xs.length ≤ sizeLine then .ok xs s2 else .stk
def tTrue : T := fun _ s => .ok true s
section
variable {X : Cx} {C : Cc} {pos : Pos}
/-- a list that is being made at L stays aside -/
structure Aside (v : Vw) (L : Addr) (va : List V) : Prop where
  h : v.H L = some (.lst va)
  g : v.G L = none
  no : ¬ v.owns L
theorem Aside.step {v v' : Vw} {L : Addr} {va : List V} (a : Aside v L va) (l : Le v v') : Aside v' L va := by
  refine ⟨l.h _ _ a.h a.no, ?_, fun q => ?_⟩
  · cases z : v'.G L with
    | none => rfl
    | some o =>
      rcases l.nw L (by rw [z]; exact fun y => nomatch y) with y | y | y
      · exact absurd a.g y
      · rw [a.h] at y; cases y
      · exact absurd y a.no
  · rcases l.ow L q with y | y
    · exact a.no y
    · rw [a.h] at y; cases y
theorem lift_lc {K : PySem.W.Frag} {it : As} {vs : List Nat} {p : Pt} {c : T} {e : E} (hp : ∀ i ∈ idxP p, i ∈ vs) {σ : L2.St} {H : Hp} {Q : VK} (h : liftF K C (fLc it vs p c e) σ H Q) :
    tLc (liftI K C it) (liftG K C.nox p) (liftT K C.nox c) (liftE K C.nox e) vs σ H Q := by
  obtain ⟨δ, v, re, eH, h⟩ := h
  refine ⟨δ, v, re, eH, on_mono (onF_bind h) fun items J v1 l1 sr1 ok h1 => ?_⟩
  intro L hD
  have h2 : onF K C σ v1 ((lcD p c e (wipeD δ vs) items v1.st).bind fun xs s2 => if xs.length ≤ sizeLine then .ok xs s2 else .stk) fun _ p v' => Q (.ref p) v'.H := h1
  clear h1
  cases q1 : lcD p c e (wipeD δ vs) items v1.st with
  | stk => rw [q1] at h2; exact h2.elim
  | exc ex s' => exact absurd q1 (lcD_exc _ _ _ _)
  | ok xs s9 =>
    rw [q1] at h2
    have h3 : xs.length ≤ sizeLine ∧ ∀ (va : List V) (v2 : Vw), Le v1 v2 → SR K C.ct v2 → v2.st = s9 → Aside v2 L va → RepL K C.ct v2.G v2.m xs va → Q (.ref L) v2.H := by
      have h4 : onF K C σ v1 (if xs.length ≤ sizeLine then .ok xs s9 else .stk) fun _ p v' => Q (.ref p) v'.H := h2
      by_cases z : xs.length ≤ sizeLine
      · rw [if_pos z] at h4
        exact ⟨z, fun va v2 l2 s2 es a2 ra => h4 L va v2 l2 s2 es hD a2.g a2.h a2.no ra⟩
      · rw [if_neg z] at h4
        exact h4.elim
    obtain ⟨hz, fin⟩ := h3
    clear h2
    have start : ∃ v2, v2.H = upd v1.H L (.lst []) ∧ Le v1 v2 ∧ SR K C.ct v2 ∧ Aside v2 L [] ∧ v2.st = v1.st := by
      obtain ⟨l2, s2, no⟩ := newH (u := .lst []) sr1 hD
      exact ⟨⟨v1.G, upd v1.H L (.lst []), v1.m, v1.st⟩, rfl, l2, s2, ⟨upd_same, sr1.free hD, no⟩, rfl⟩
    refine ⟨fun i m H2 => m = items.length - i ∧ i ≤ items.length ∧ ∃ (v2 : Vw) (acc rest : List D) (va : List V), v2.H = H2 ∧ Le v1 v2 ∧ SR K C.ct v2 ∧ Aside v2 L va ∧ RepL K C.ct v2.G v2.m acc va ∧
      lcD p c e (wipeD δ vs) (items.drop i) v2.st = .ok rest s9 ∧ acc ++ rest = xs, ?_, ?_⟩
    · obtain ⟨v2, e2, l2, s2, a2, es⟩ := start
      exact ⟨items.length, by simp, Nat.zero_le _, v2, [], xs, [], e2, l2, s2, a2, .nil, by rw [es]; exact q1, rfl⟩
    rintro i m H2 ⟨rfl, hi, v2, acc, rest, va, rfl, l2, s2, a2, ra, el, ex⟩
    by_cases hlt : i < items.length
    · refine .inr ⟨ok.go i v2 l2 s2 hlt, fun H3 => ∃ (v2 : Vw) (acc rest : List D) (va : List V), v2.H = H3 ∧ Le v1 v2 ∧ SR K C.ct v2 ∧ Aside v2 L va ∧ RepL K C.ct v2.G v2.m acc va ∧
        lcD p c e (wipeD δ vs) (items.drop (i + 1)) v2.st = .ok rest s9 ∧ acc ++ rest = xs, fun H' n => ⟨items.length - (i + 1), by omega, rfl, hlt, n⟩, fun x H' y => ?_⟩
      obtain ⟨d, v3, ed, rfl, l3, s3, e3, r3⟩ := ok.yld i v2 x H' l2 s2 hlt y
      have ed2 : items.drop i = d :: items.drop (i + 1) := by
        rw [List.drop_eq_getElem_cons hlt]
        rw [List.getElem?_eq_getElem hlt] at ed
        rw [Option.some.inj ed]
      rw [ed2] at el
      simp only [lcD] at el
      cases eb : bindP p d (wipeD δ vs) with
      | none => rw [eb] at el; exact nomatch el
      | some δ1 =>
        rw [eb] at el
        simp only at el
        have re3 := (((re.step l1 sr1).step l2 s2).step l3 s3)
        refine ⟨d, wipeD δ vs, v3, δ1, (re3.wipe vs).wish _, rfl, r3, eb, fun σ4 re4 o4 => ⟨wipe_off o4 hp, δ1, v3, re4, rfl, ?_⟩⟩
        rw [e3]
        cases ec : c δ1 v2.st with
        | stk => rw [ec] at el; exact nomatch el
        | exc _ _ => rw [ec] at el; exact nomatch el
        | ok b s4 =>
          rw [ec] at el
          intro b2 v4 l4 s4' es4 eb2
          cases eb2
          cases b with
          | true =>
            rw [if_pos rfl]
            simp only at el
            refine ⟨δ1, v4, re4.step l4 s4', rfl, ?_⟩
            rw [es4]
            cases ee : e δ1 s4 with
            | stk => rw [ee] at el; exact nomatch el
            | exc _ _ => rw [ee] at el; exact nomatch el
            | ok y0 s5 =>
              rw [ee] at el
              intro y5 v5 l5 s5' es5 r5
              simp only at el
              cases er : lcD p c e (wipeD δ vs) (items.drop (i + 1)) s5 with
              | stk => rw [er] at el; exact nomatch el
              | exc _ _ => rw [er] at el; exact nomatch el
              | ok rest2 s6 =>
                rw [er] at el
                simp only [R.ok.injEq] at el
                obtain ⟨el, es6⟩ := el
                subst el
                subst es6
                have l25 := (l3.trans l4).trans l5
                have a5 := a2.step l25
                have hl := ra.length
                have hl2 : acc.length + (rest2.length + 1) = xs.length := by rw [← ex]; simp
                obtain ⟨s7, ow7⟩ := side_ok (u := .lst (va ++ [y5])) s5' a5.g a5.no
                refine ⟨va, a5.h, by omega, ⟨v5.G, upd v5.H L (.lst (va ++ [y5])), v5.m, v5.st⟩, acc ++ [y0], rest2, va ++ [y5], rfl, ?_, s7, ⟨upd_same, a5.g, fun q => a5.no (ow7 _ q)⟩, (l25.repl ra).append (RepL.one r5), ?_, by rw [List.append_assoc]; exact ex⟩
                · have l15 := l2.trans l25
                  exact ⟨l15.g, l15.m, fun b o hb nb => by
                    show upd v5.H L _ b = some o
                    rw [upd_ne (ne_of_none hb hD)]
                    exact l15.h b o hb nb, l15.nw, fun b q => l15.ow b (ow7 b q), fun b q => by
                    have q' : upd v5.H L (.lst (va ++ [y5])) b = none := q
                    by_cases z : b = L
                    · rw [z, upd_same] at q'; cases q'
                    · rw [upd_ne z] at q'
                      exact l15.al b q'⟩
                · show lcD p c e (wipeD δ vs) (items.drop (i + 1)) v5.st = .ok rest2 s6
                  rw [es5]
                  exact er
          | false =>
            rw [if_neg Bool.false_ne_true]
            simp only at el
            have l24 := l3.trans l4
            exact ⟨v4, acc, rest, va, rfl, l2.trans l24, s4', a2.step l24, l24.repl ra, by rw [es4]; exact el, ex⟩
    · have ei : i = items.length := by omega
      subst ei
      rw [List.drop_length] at el
      simp only [lcD, R.ok.injEq] at el
      obtain ⟨el, es⟩ := el
      subst el
      rw [List.append_nil] at ex
      subst ex
      exact .inl ⟨ok.stop _ v2 l2 s2 (Nat.le_refl _), fin va v2 l2 s2 es a2 ra⟩
abbrev STs (X : Cx) (C : Cc) (ifs : List Expr) (t : T) : Prop := PTs X ifs (liftT X.K C t)
theorem sts_nil : STs X C [] tTrue := ⟨fun pins s σ H Q I ⟨δ, v, re, eH, h⟩ => by
  subst eH
  exact pts_nil.run pins s σ _ Q I (h true v .refl re.sr rfl rfl)⟩
theorem sts_one {c : Expr} {t : T} (h : ST X C c t) : STs X C [c] t := pts_one h
variable {elt tg iter : Expr} {ifs : List Expr} {scope : Scope} {it : As} {p : Pt} {c : T} {e : E}
theorem sf_lc (own : List (Str × Nat)) (hc : X.calm = true) (hN : X.N.Nodup) (hi : SI X C tg iter it) (ok : BlkOk X.N X.env.scope scope own) (hp : ∀ i ∈ idxP p, i ∈ own.map (·.2))
    (hg : ∀ (s : Shared) (H : Hp) (c0 : Addr) (cl : List (Str × Addr)) (fp : List Addr), SG (X.blk s H scope (compEnvC scope cl c0 X.env) fp) C.nox tg p)
    (ht : ∀ (s : Shared) (H : Hp) (c0 : Addr) (cl : List (Str × Addr)) (fp : List Addr), STs (X.blk s H scope (compEnvC scope cl c0 X.env) fp) C.nox ifs c)
    (he : ∀ (s : Shared) (H : Hp) (c0 : Addr) (cl : List (Str × Addr)) (fp : List Addr), SE (X.blk s H scope (compEnvC scope cl c0 X.env) fp) C.nox elt e) (hs : ∀ x, foldedSetIterable iter X.env x = pure x := by intro _; rfl) :
    SF X C (.ListComp elt [⟨tg, iter, ifs, 0⟩] scope pos) (fLc it (own.map (·.2)) p c e) :=
  pe_weak (pe_lc hc hN hi ok hg ht he hs) fun σ H Q h => lift_lc hp h
/-- y = [..] -/
theorem lift_setLc {K : PySem.W.Frag} {f : Fr} {g : Fr → E} {i : Nat} {Dn : Ends} {σ : L2.St} {H : Hp} {tlc : TE} (w : ∀ σ H Q, liftE K C (g f) σ H Q → tlc σ H Q) (h : liftS K C (sSet i (g f)) Dn σ H) : tAsg tlc (gName i) Dn σ H := by
  refine w _ _ _ ?_
  obtain ⟨δ, v, re, eH, h⟩ := h
  exact ⟨δ, v, re, eH, on_mono (onS_R re h) fun d x v1 l1 s1 r1 h1 => h1 (σ.set i (some x)) v1 ((re.step l1 s1).setV i r1) .refl rfl⟩
theorem ss_setLc (i : Nat) {g : Fr → E} {y : Str} {py spos : Pos} (own : List (Str × Nat)) (hgz : ∀ σ H Q, liftE X.K C (g (fLc it (own.map (·.2)) p c e)) σ H Q → liftF X.K C (fLc it (own.map (·.2)) p c e) σ H Q) (hc : X.calm = true) (hN : X.N.Nodup) (hy : X.N[i]? = some y) (hyl : X.env.scope.names.lookup y = some .local)
    (hsw : swapsWith (.ListComp elt [⟨tg, iter, ifs, 0⟩] scope pos) (some (.Name y py)) spos.line X.env = pure true) (hi : SI X C tg iter it) (ok : BlkOk X.N X.env.scope scope own) (hp : ∀ i ∈ idxP p, i ∈ own.map (·.2))
    (hg : ∀ (s : Shared) (H : Hp) (c0 : Addr) (cl : List (Str × Addr)) (fp : List Addr), SG (X.blk s H scope (compEnvC scope cl c0 X.env) fp) C.nox tg p)
    (ht : ∀ (s : Shared) (H : Hp) (c0 : Addr) (cl : List (Str × Addr)) (fp : List Addr), STs (X.blk s H scope (compEnvC scope cl c0 X.env) fp) C.nox ifs c)
    (he : ∀ (s : Shared) (H : Hp) (c0 : Addr) (cl : List (Str × Addr)) (fp : List Addr), SE (X.blk s H scope (compEnvC scope cl c0 X.env) fp) C.nox elt e) (hs : ∀ x, foldedSetIterable iter X.env x = pure x := by intro _; rfl) :
    SS X C (.Assign [.Name y py] (.ListComp elt [⟨tg, iter, ifs, 0⟩] scope pos) spos) (sSet i (g (fLc it (own.map (·.2)) p c e))) :=
  ps_weak (ps_setLc hc hN hy hyl hsw hi ok hg ht he hs) fun Dn σ H h => lift_setLc (g := g) (fun _ _ _ z => lift_lc hp (hgz _ _ _ z)) h
end
end Gs

/-! G8: in, is of truths; lists of the store; walks. -/
namespace Gs
open PySem L2
def gIn : B2
  | .str x, .str z => match x.cps.toList with
    | [c] => some (.bl (decide (c ∈ z.cps.toList)))
    | _ => none
  | .str x, .tup ds => (strsOf ds).map fun zs => .bl (decide (x ∈ zs))
  | .str x, .lst ds => (strsOf ds).map fun zs => .bl (decide (x ∈ zs))
  | .int x, .tup ds => (intsOf ds).map fun zs => .bl (decide (x ∈ zs))
  | .int x, .lst ds => (intsOf ds).map fun zs => .bl (decide (x ∈ zs))
  | _, _ => none
def gNin : B2 := fun x y => match gIn x y with
  | some (.bl b) => some (.bl !b)
  | _ => none
theorem inV_strs (x : Str) : ∀ zs : List Str, inV (.str x) (zs.map V.str) = decide (x ∈ zs)
  | [] => by simp [inV]
  | z :: zs => by
    have ih := inV_strs x zs
    unfold inV at ih ⊢
    rw [List.map_cons, List.any_cons, ih]
    have e : eqV (.str z) (.str x) = (z == x) := rfl
    rw [e]
    by_cases h : z = x
    · simp [h]
    · have h' : ¬ x = z := fun q => h q.symm
      simp [h, h']
theorem flat_strs : ∀ zs : List Str, (zs.map V.str).all flatV = true
  | [] => rfl
  | z :: zs => by
    rw [List.map_cons, List.all_cons, flat_strs zs]
    rfl
theorem inV_ints (x : Int) : ∀ zs : List Int, inV (.int x) (zs.map V.int) = decide (x ∈ zs)
  | [] => by simp [inV]
  | z :: zs => by
    have ih := inV_ints x zs
    unfold inV at ih ⊢
    rw [List.map_cons, List.any_cons, ih]
    have e : eqV (.int z) (.int x) = (z == x) := rfl
    rw [e]
    by_cases h : z = x
    · simp [h]
    · have h' : ¬ x = z := fun q => h q.symm
      simp [h, h']
theorem flat_ints : ∀ zs : List Int, (zs.map V.int).all flatV = true
  | [] => rfl
  | z :: zs => by
    rw [List.map_cons, List.all_cons, flat_ints zs]
    rfl
theorem one_sign {x : Str} {c : Nat} (h : x.cps.toList = [c]) : x = ⟨#[c]⟩ := by
  cases x with
  | mk a =>
    congr 1
    exact Array.toList_inj.mp h
section
variable {X : Cx}
theorem o_in {ct : String → Addr} : OpR X (compareOp .In) (rD X.K ct gIn) := by
  intro pins s σ H x y v u Q I rx ry h
  obtain ⟨v0, dx, dy, d, rfl, sr, e, r1, r2, h⟩ := h
  cases r1 <;> cases r2 <;> simp only [gIn, reduceCtorEq] at e
  · rename_i x a vs ds p q
    cases hz : intsOf ds with
    | none => rw [hz] at e; exact nomatch e
    | some zs =>
      rw [hz] at e
      simp only [Option.map_some, Option.some.injEq] at e
      subst e
      have hd := intsOf_eq hz
      subst hd
      have hv := RepL.of_ints q
      subst hv
      refine op_in_seq pins s σ _ _ _ v u Q I rx ry ⟨a, _, rfl, .inr (sqt_mono sr.sub p), rfl, flat_ints zs, ?_⟩
      rw [inV_ints]
      exact h _ v0 .refl sr rfl (.bl _)
  · rename_i x a vs ds p q
    cases hz : intsOf ds with
    | none => rw [hz] at e; exact nomatch e
    | some zs =>
      rw [hz] at e
      simp only [Option.map_some, Option.some.injEq] at e
      subst e
      have hd := intsOf_eq hz
      subst hd
      have hv := RepL.of_ints q
      subst hv
      refine op_in_seq pins s σ _ _ _ v u Q I rx ry ⟨a, _, rfl, .inl p, rfl, flat_ints zs, ?_⟩
      rw [inV_ints]
      exact h _ v0 .refl sr rfl (.bl _)
  · rename_i x z
    split at e
    · rename_i c hc
      simp only [Option.some.injEq] at e
      subst e
      exact op_in_sign pins s σ _ _ _ v u Q I rx ry ⟨c, z, by rw [one_sign hc], rfl, h _ v0 .refl sr rfl (.bl _)⟩
    · exact nomatch e
  · rename_i x a vs ds p q
    cases hz : strsOf ds with
    | none => rw [hz] at e; exact nomatch e
    | some zs =>
      rw [hz] at e
      simp only [Option.map_some, Option.some.injEq] at e
      subst e
      have hd := strsOf_eq hz
      subst hd
      have hv := RepL.of_strs q
      subst hv
      refine op_in_seq pins s σ _ _ _ v u Q I rx ry ⟨a, _, rfl, .inr (sqt_mono sr.sub p), rfl, flat_strs zs, ?_⟩
      rw [inV_strs]
      exact h _ v0 .refl sr rfl (.bl _)
  · rename_i x a vs ds p q
    cases hz : strsOf ds with
    | none => rw [hz] at e; exact nomatch e
    | some zs =>
      rw [hz] at e
      simp only [Option.map_some, Option.some.injEq] at e
      subst e
      have hd := strsOf_eq hz
      subst hd
      have hv := RepL.of_strs q
      subst hv
      refine op_in_seq pins s σ _ _ _ v u Q I rx ry ⟨a, _, rfl, .inl p, rfl, flat_strs zs, ?_⟩
      rw [inV_strs]
      exact h _ v0 .refl sr rfl (.bl _)
theorem o_nin {ct : String → Addr} : OpR X (compareOp .NotIn) (rD X.K ct gNin) := by
  intro pins s σ H x y v u Q I rx ry h
  obtain ⟨v0, dx, dy, d, rfl, sr, e, r1, r2, h⟩ := h
  unfold gNin at e
  cases r1 <;> cases r2 <;> simp only [gIn, reduceCtorEq] at e
  · rename_i x a vs ds p q
    cases hz : intsOf ds with
    | none => rw [hz] at e; exact nomatch e
    | some zs =>
      rw [hz] at e
      simp only [Option.map_some, Option.some.injEq] at e
      subst e
      have hd := intsOf_eq hz
      subst hd
      have hv := RepL.of_ints q
      subst hv
      refine op_notIn_seq pins s σ _ _ _ v u Q I rx ry ⟨a, _, rfl, .inr (sqt_mono sr.sub p), rfl, flat_ints zs, ?_⟩
      rw [inV_ints]
      exact h _ v0 .refl sr rfl (.bl _)
  · rename_i x a vs ds p q
    cases hz : intsOf ds with
    | none => rw [hz] at e; exact nomatch e
    | some zs =>
      rw [hz] at e
      simp only [Option.map_some, Option.some.injEq] at e
      subst e
      have hd := intsOf_eq hz
      subst hd
      have hv := RepL.of_ints q
      subst hv
      refine op_notIn_seq pins s σ _ _ _ v u Q I rx ry ⟨a, _, rfl, .inl p, rfl, flat_ints zs, ?_⟩
      rw [inV_ints]
      exact h _ v0 .refl sr rfl (.bl _)
  · rename_i x z
    split at e
    · rename_i b hb
      simp only [Option.some.injEq] at e
      subst e
      split at hb
      · rename_i c hc
        simp only [Option.some.injEq, D.bl.injEq] at hb
        subst hb
        exact op_notIn_sign pins s σ _ _ _ v u Q I rx ry ⟨c, z, by rw [one_sign hc], rfl, h _ v0 .refl sr rfl (.bl _)⟩
      · exact nomatch hb
    · exact nomatch e
  · rename_i x a vs ds p q
    cases hz : strsOf ds with
    | none => rw [hz] at e; exact nomatch e
    | some zs =>
      rw [hz] at e
      simp only [Option.map_some, Option.some.injEq] at e
      subst e
      have hd := strsOf_eq hz
      subst hd
      have hv := RepL.of_strs q
      subst hv
      refine op_notIn_seq pins s σ _ _ _ v u Q I rx ry ⟨a, _, rfl, .inr (sqt_mono sr.sub p), rfl, flat_strs zs, ?_⟩
      rw [inV_strs]
      exact h _ v0 .refl sr rfl (.bl _)
  · rename_i x a vs ds p q
    cases hz : strsOf ds with
    | none => rw [hz] at e; exact nomatch e
    | some zs =>
      rw [hz] at e
      simp only [Option.map_some, Option.some.injEq] at e
      subst e
      have hd := strsOf_eq hz
      subst hd
      have hv := RepL.of_strs q
      subst hv
      refine op_notIn_seq pins s σ _ _ _ v u Q I rx ry ⟨a, _, rfl, .inl p, rfl, flat_strs zs, ?_⟩
      rw [inV_strs]
      exact h _ v0 .refl sr rfl (.bl _)
def gIsB : B2
  | .bl a, .bl b => some (.bl (decide (a = b)))
  | .int _, .bl _ => some (.bl false)
  | _, _ => none
def gNotB : B2
  | .bl a, .bl b => some (.bl (!decide (a = b)))
  | _, _ => none
theorem op_isIB : OpR X (compareOp .Is) (fun x y H Q => ∃ i b, x = .int i ∧ y = .bl b ∧ Q (.bl false) H) := by
  intro pins s σ H x y v u Q I rx ry h
  obtain ⟨i, b, rfl, rfl, q⟩ := h
  obtain ⟨t, rfl⟩ := rx
  cases (show u = Value.bool b from ry)
  exact wpAny_is_other rfl (fun z => nomatch z) ⟨.bl false, H, I, rfl, q⟩
theorem o_isB {ct : String → Addr} : OpR X (compareOp .Is) (rD X.K ct gIsB) := by
  intro pins s σ H x y v u Q I rx ry h
  obtain ⟨v0, dx, dy, d, rfl, sr, e, r1, r2, h⟩ := h
  unfold gIsB at e
  split at e
  case h_3 => exact nomatch e
  case h_2 =>
    cases r1
    cases r2
    simp only [Option.some.injEq] at e
    subst e
    exact op_isIB pins s σ _ _ _ v u Q I rx ry ⟨_, _, rfl, rfl, h _ v0 .refl sr rfl (.bl _)⟩
  cases r1
  cases r2
  simp only [Option.some.injEq] at e
  subst e
  exact op_isBl pins s σ _ _ _ v u Q I rx ry ⟨_, _, rfl, rfl, h _ v0 .refl sr rfl (.bl _)⟩
theorem o_notB {ct : String → Addr} : OpR X (compareOp .IsNot) (rD X.K ct gNotB) := by
  intro pins s σ H x y v u Q I rx ry h
  obtain ⟨v0, dx, dy, d, rfl, sr, e, r1, r2, h⟩ := h
  unfold gNotB at e
  split at e
  case h_2 => exact nomatch e
  cases r1
  cases r2
  simp only [Option.some.injEq] at e
  subst e
  exact op_notBl pins s σ _ _ _ v u Q I rx ry ⟨_, _, rfl, rfl, h _ v0 .refl sr rfl (.bl _)⟩
end
/-! ### lists of the store -/
/-- the things of a list of the store -/
def lsO (s : Sto) : D → Option (List D)
  | .ob i => match s[i]? with
    | some (.lst xs) => some xs
    | _ => none
  | _ => none
def stO (s : Sto) (d : D) (xs : List D) : Sto := match d with
  | .ob i => s.set i (.lst xs)
  | _ => s
theorem lsO_at {K : PySem.W.Frag} {ct : String → Addr} {v : Vw} {d : D} {x : V} {xs : List D} (sr : SR K ct v) (r : Rep K ct v.G v.m d x) (e : lsO v.st d = some xs) :
    ∃ i a vs, d = .ob i ∧ x = .ref a ∧ v.m i = some a ∧ v.st[i]? = some (.lst xs) ∧ v.H a = some (.lst vs) ∧ RepL K ct v.G v.m xs vs := by
  unfold lsO at e
  split at e
  · rename_i i
    split at e
    · rename_i ys q
      simp only [Option.some.injEq] at e
      subst e
      cases r with
      | ob em =>
        obtain ⟨a', em', _, vs, h, r2⟩ := sr.obj i _ q rfl
        rw [em] at em'
        cases em'
        exact ⟨i, _, vs, rfl, rfl, em, q, h, r2⟩
    · exact nomatch e
  · exact nomatch e
theorem stO_ok {K : PySem.W.Frag} {ct : String → Addr} {v : Vw} {i : Nat} {a : Addr} {xs ys : List D} {us : List V} (sr : SR K ct v) (em : v.m i = some a) (q : v.st[i]? = some (.lst xs)) (r : RepL K ct v.G v.m ys us) :
    Le v (v.put i a (.lst us) (.lst ys)) ∧ SR K ct (v.put i a (.lst us) (.lst ys)) :=
  put_ok sr q rfl em (fun C b fs z => nomatch z) ⟨us, upd_same, r⟩
section
variable {X : Cx} {C : Cc} {pos : Pos} {o a b e : Expr} {fo fa fb fe : E}
/-- o.append(a) -/
def eApp (o a : E) : E := fun δ s => (o δ s).bind fun x s1 => if (lsO s1 x).isSome = true then ((a δ s1).bind fun y s2 => match lsO s2 x with
  | some xs => if xs.length < sizeLine then .ok .non (stO s2 x (xs ++ [y])) else .stk
  | none => .stk) else .stk
theorem isSome_of {α : Type} {o : Option α} (h : o.isSome = true) : ∃ a, o = some a := Option.isSome_iff_exists.mp h
theorem se_app {p2 p3 : Pos} (ho : SE X C o fo) (ha : SE X C a fa) (hbase : attributeBase o "append" X.env (eval o X.env) = eval o X.env := by rfl)
    (hfew : ((backTo p3 (starEach [a] X.env)).all (fun x => !x.1) && (backToKw p3 (keywordEach [] X.env)).all (fun x => x.1.isSome)
      && decide ([a].length + ([] : List Keyword).length + (if ([] : List Keyword).isEmpty then 0 else 1) < 30)) = true := by rfl)
    (hline : (p2.endLine == p3.line) = true := by rfl) (hst : starEach [a] X.env = (false, eval a X.env) :: starEach [] X.env := by rfl) (hpl : (backTo p3 (starEach [] X.env)).any (·.1) = false := by rfl) :
    SE X C (.Call (.Attribute o "append" p2) [a] [] p3) (eApp fo fa) :=
  pe_weak (pe_bm PySem.F.plainAttrs_list PySem.F.slot_list_append PySem.F.type_list_append mt_append ho (pa_cons ha pa_nil hst) hbase hfew hline hst hpl) fun σ H Q ⟨δ, v, re, eH, h⟩ => by
    refine ⟨δ, v, re, eH, on_mono (on_bind h) fun d x v1 l1 s1 r1 h1 => ?_⟩
    split at h1
    · rename_i hs
      obtain ⟨xs0, e0⟩ := isSome_of hs
      obtain ⟨i, p, vs0, rfl, rfl, em, q0, hh0, _⟩ := lsO_at s1 r1 e0
      refine ⟨.inl ⟨rfl, vs0, SqL.of hh0⟩, δ, v1, re.step l1 s1, rfl, on_mono (on_bind h1) fun y u v2 l2 s2 r2 h2 => ?_⟩
      cases e1 : lsO v2.st (.ob i) with
      | none => rw [e1] at h2; exact h2.elim
      | some xs =>
        rw [e1] at h2
        obtain ⟨i', p', vs, ei, ep, em', q1, hh, r0⟩ := lsO_at s2 (l2.rep r1) e1
        cases ei
        cases ep
        simp only at h2
        split at h2
        · rename_i hz
          have hl := r0.length
          obtain ⟨l3, s3⟩ := stO_ok s2 em' q1 (r0.append (RepL.one r2))
          exact ⟨p, vs, u, rfl, rfl, hh, by omega, h2 .non (v2.put i p (.lst (vs ++ [u])) (.lst (xs ++ [y]))) l3 s3 rfl .non⟩
        · exact h2.elim
    · exact h1.elim
/-- o.pop(a) -/
def ePopAt (o a : E) : E := fun δ s => (o δ s).bind fun x s1 => if (lsO s1 x).isSome = true then ((a δ s1).bind fun y s2 => match lsO s2 x, y with
  | some xs, .int k => if -(2 ^ 63) ≤ k ∧ k < 2 ^ 63 then (match seqIndex? k xs.length with
    | some j => (match xs[j]? with
      | some d => .ok d (stO s2 x (xs.eraseIdx j))
      | none => .stk)
    | none => .stk) else .stk
  | _, _ => .stk) else .stk
theorem se_popAt {p2 p3 : Pos} (ho : SE X C o fo) (ha : SE X C a fa) (hbase : attributeBase o "pop" X.env (eval o X.env) = eval o X.env := by rfl)
    (hfew : ((backTo p3 (starEach [a] X.env)).all (fun x => !x.1) && (backToKw p3 (keywordEach [] X.env)).all (fun x => x.1.isSome)
      && decide ([a].length + ([] : List Keyword).length + (if ([] : List Keyword).isEmpty then 0 else 1) < 30)) = true := by rfl)
    (hline : (p2.endLine == p3.line) = true := by rfl) (hst : starEach [a] X.env = (false, eval a X.env) :: starEach [] X.env := by rfl) (hpl : (backTo p3 (starEach [] X.env)).any (·.1) = false := by rfl) :
    SE X C (.Call (.Attribute o "pop" p2) [a] [] p3) (ePopAt fo fa) :=
  pe_weak (pe_bm PySem.F.plainAttrs_list PySem.F.slot_list_pop PySem.F.type_list_pop mt_popAt ho (pa_cons ha pa_nil hst) hbase hfew hline hst hpl) fun σ H Q ⟨δ, v, re, eH, h⟩ => by
    refine ⟨δ, v, re, eH, on_mono (on_bind h) fun d x v1 l1 s1 r1 h1 => ?_⟩
    split at h1
    · rename_i hs
      obtain ⟨xs0, e0⟩ := isSome_of hs
      obtain ⟨i, p, vs0, rfl, rfl, em, q0, hh0, _⟩ := lsO_at s1 r1 e0
      refine ⟨.inl ⟨rfl, vs0, SqL.of hh0⟩, δ, v1, re.step l1 s1, rfl, on_mono (on_bind h1) fun y u v2 l2 s2 r2 h2 => ?_⟩
      cases e1 : lsO v2.st (.ob i) with
      | none => rw [e1] at h2; exact h2.elim
      | some xs =>
        rw [e1] at h2
        obtain ⟨i', p', vs, ei, ep, em', q1, hh, r0⟩ := lsO_at s2 (l2.rep r1) e1
        cases ei
        cases ep
        have hl := r0.length
        cases r2 with
        | int k =>
          simp only at h2
          split at h2
          · rename_i hk
            cases ej : seqIndex? k xs.length with
            | none => rw [ej] at h2; exact h2.elim
            | some j =>
              rw [ej] at h2
              simp only at h2
              cases ed : xs[j]? with
              | none => rw [ed] at h2; exact h2.elim
              | some d =>
                rw [ed] at h2
                obtain ⟨w, ew, rw2⟩ := r0.get ed
                obtain ⟨l3, s3⟩ := stO_ok s2 em' q1 (r0.erase j)
                exact ⟨p, vs, k, j, w, rfl, rfl, hh, hk.1, hk.2, by rw [← hl]; exact ej, ew, h2 w (v2.put i p (.lst (vs.eraseIdx j)) (.lst (xs.eraseIdx j))) l3 s3 rfl rw2⟩
          · exact h2.elim
        | _ => exact h2.elim
    · exact h1.elim
/-- o.extend(a), a another list -/
def eExt (o a : E) : E := fun δ s => (o δ s).bind fun x s1 => if (lsO s1 x).isSome = true then ((a δ s1).bind fun y s2 => match lsO s2 x, rsv s2 y with
  | some xs, .lst ys => (match y with
    | .ob _ => if xs.length + ys.length ≤ sizeLine then .ok .non (stO s2 x (xs ++ ys)) else .stk
    | _ => .stk)
  | _, _ => .stk) else .stk
theorem se_ext {p2 p3 : Pos} (ho : SE X C o fo) (ha : SE X C a fa) (hbase : attributeBase o "extend" X.env (eval o X.env) = eval o X.env := by rfl)
    (hfew : ((backTo p3 (starEach [a] X.env)).all (fun x => !x.1) && (backToKw p3 (keywordEach [] X.env)).all (fun x => x.1.isSome)
      && decide ([a].length + ([] : List Keyword).length + (if ([] : List Keyword).isEmpty then 0 else 1) < 30)) = true := by rfl)
    (hline : (p2.endLine == p3.line) = true := by rfl) (hst : starEach [a] X.env = (false, eval a X.env) :: starEach [] X.env := by rfl) (hpl : (backTo p3 (starEach [] X.env)).any (·.1) = false := by rfl) :
    SE X C (.Call (.Attribute o "extend" p2) [a] [] p3) (eExt fo fa) :=
  pe_weak (pe_bm PySem.F.plainAttrs_list PySem.F.slot_list_extend PySem.F.type_list_extend mt_extend ho (pa_cons ha pa_nil hst) hbase hfew hline hst hpl) fun σ H Q ⟨δ, v, re, eH, h⟩ => by
    refine ⟨δ, v, re, eH, on_mono (on_bind h) fun d x v1 l1 s1 r1 h1 => ?_⟩
    split at h1
    · rename_i hs
      obtain ⟨xs0, e0⟩ := isSome_of hs
      obtain ⟨i, p, vs0, rfl, rfl, em, q0, hh0, _⟩ := lsO_at s1 r1 e0
      refine ⟨.inl ⟨rfl, vs0, SqL.of hh0⟩, δ, v1, re.step l1 s1, rfl, on_mono (on_bind h1) fun y u v2 l2 s2 r2 h2 => ?_⟩
      cases e1 : lsO v2.st (.ob i) with
      | none => rw [e1] at h2; exact h2.elim
      | some xs =>
        rw [e1] at h2
        obtain ⟨i', p', vs, ei, ep, em', q1, hh, r0⟩ := lsO_at s2 (l2.rep r1) e1
        cases ei
        cases ep
        have hl := r0.length
        split at h2
        · rename_i zs ys ez ey
          cases ez
          split at h2
          · rename_i j
            split at h2
            · rename_i hz
              have eL : lsO v2.st (.ob j) = some ys := by
                unfold rsv at ey
                unfold lsO
                dsimp only at ey ⊢
                split at ey
                · rename_i q5; cases ey; rw [q5]
                · cases ey
                · cases ey
              obtain ⟨j', b, us, ej, eu, emj, qj, hb, rb⟩ := lsO_at s2 r2 eL
              cases ej
              cases eu
              have hl2 := rb.length
              obtain ⟨l3, s3⟩ := stO_ok s2 em' q1 (r0.append rb)
              exact ⟨p, b, vs, us, rfl, rfl, hh, hb, by omega, h2 .non (v2.put i p (.lst (vs ++ us)) (.lst (xs ++ ys))) l3 s3 rfl .non⟩
            · exact h2.elim
          · exact h2.elim
        · exact h2.elim
    · exact h1.elim
/-- a list of the store from here on frozen -/
def frzD (s : Sto) (d : D) : D × Sto := match d with
  | .ob i => (match s[i]? with
    | some (.lst xs) => (.lst xs, s.set i .gone)
    | _ => (d, s))
  | _ => (d, s)
theorem frzD_ok {K : PySem.W.Frag} {ct : String → Addr} {v : Vw} {d : D} {x : V} (sr : SR K ct v) (r : Rep K ct v.G v.m d x) : ∃ v', Le v v' ∧ SR K ct v' ∧ v'.H = v.H ∧ v'.st = (frzD v.st d).2 ∧ Rep K ct v'.G v'.m (frzD v.st d).1 x := by
  unfold frzD
  split
  · rename_i i
    split
    · rename_i xs q
      cases r with
      | @ob _ _ _ a em =>
        obtain ⟨a', em', _, vs, h, r2⟩ := sr.obj i _ q rfl
        rw [em] at em'
        cases em'
        obtain ⟨l, s⟩ := frz_ok sr q rfl em h
        exact ⟨v.frz i a (.lst vs), l, s, rfl, rfl, .lst (SqL.of upd_same) (l.repl r2)⟩
    · exact ⟨v, .refl, sr, rfl, rfl, r⟩
  · exact ⟨v, .refl, sr, rfl, rfl, r⟩
def eFrz (f : E) : E := fun δ s => (f δ s).bind fun d s1 => .ok (frzD s1 d).1 (frzD s1 d).2
theorem se_frz (h : SE X C e fe) : SE X C e (eFrz fe) := pe_weak h fun σ H Q ⟨δ, v, re, eH, h⟩ =>
  ⟨δ, v, re, eH, on_mono (on_bind h) fun d x v1 l1 s1 r1 h1 => by
    obtain ⟨v2, l2, s2, eH2, es2, r2⟩ := frzD_ok s1 r1
    have h2 : Q x v2.H := h1 x v2 l2 s2 es2 r2
    rw [eH2] at h2
    exact h2⟩
/-- the list at x is frozen from here on -/
def sFrz (i : Nat) (f : S) : S := fun δ s => match δ[i]? with
  | some (some d) => f (δ.set i (some (frzD s d).1)) (frzD s d).2
  | _ => f δ s
theorem ss_frz (i : Nat) {st : Stmt} {g : S} (h : SS X C st g) : SS X C st (sFrz i g) := ps_weak h fun Dn σ H ⟨δ, v, re, eH, h⟩ => by
  unfold sFrz at h
  split at h
  · rename_i d q
    obtain ⟨x, e0, r0⟩ := re.sl i d q
    obtain ⟨v2, l2, s2, eH2, es2, r2⟩ := frzD_ok re.sr r0
    have re2 := (re.step l2 s2).setV i r2
    have eσ : σ.set i (some x) = σ := by
      apply List.ext_getElem?
      intro j
      by_cases z : i = j
      · subst z
        rw [List.getElem?_set_self (List.getElem?_eq_some_iff.mp e0).1, e0]
      · rw [List.getElem?_set_ne z]
    rw [eσ] at re2
    rw [← es2] at h
    exact ⟨_, v2, re2, eH2.trans eH, onS_same l2 h⟩
  · exact ⟨δ, v, re, eH, h⟩
/-- o[b] = e of a list of the store -/
def sSetIx (o b e : E) : S := fun δ s => sBind (e δ s) δ fun d s1 => sBind (o δ s1) δ fun x s2 => sBind (b δ s2) δ fun z s3 => match lsO s3 x, z with
  | some xs, .int k => (match ixN xs.length k with
    | some j => .nx δ (stO s3 x (xs.set j d))
    | none => .stk)
  | _, _ => .stk
theorem ss_setIx {p2 : Pos} (ho : SE X C o fo) (hi : SE X C b fb) (he : SE X C e fe)
    (ha : ∀ v, assign (.Subscript o b p2) X.env v = (do
      let ov ← holding [v] (eval o X.env)
      let iv ← holding [v, ov] (eval b X.env)
      standAt p2
      holding [v, ov, iv] (setItem ov iv v)
      release [v, ov, iv] []) := by intro _; rfl)
    (hs : swapsWithSole [.Subscript o b p2] e pos.line X.env = pure false := by rfl) (hw : swappedStores [.Subscript o b p2] e X.env = pure none := by rfl)
    (h1 : (assignEach [.Subscript o b p2] X.env).map (·.2) = [assign (.Subscript o b p2) X.env] := by rfl) :
    SS X C (.Assign [.Subscript o b p2] e pos) (sSetIx fo fb fe) :=
  ps_weak (ps_asg he (pg_sub ho hi set_list ha) hs hw h1) fun Dn σ H ⟨δ, v, re, eH, h⟩ => by
    refine ⟨δ, v, re, eH, on_mono (onS_R re h) fun d x v1 l1 s1 r1 h1 => ?_⟩
    have re1 := re.step l1 s1
    refine ⟨δ, v1, re1, rfl, on_mono (onS_R re1 h1) fun d2 x2 v2 l2 s2 r2 h2 => ?_⟩
    have re2 := re1.step l2 s2
    refine ⟨δ, v2, re2, rfl, on_mono (onS_R re2 h2) fun z u v3 l3 s3 r3 h3 => ?_⟩
    have re3 := re2.step l3 s3
    split at h3
    · rename_i xs k e0
      split at h3
      · rename_i j ej
        obtain ⟨i, p, vs, rfl, rfl, em, q0, hh, r0⟩ := lsO_at s3 (l3.rep r2) e0
        cases r3
        have hl := r0.length
        obtain ⟨l4, s4⟩ := stO_ok s3 em q0 (r0.set j ((l2.trans l3).rep r1))
        exact ⟨p, vs, k, j, rfl, rfl, hh, by rw [← hl]; exact ej, h3 σ (v3.put i p (.lst (vs.set j x)) (.lst (xs.set j d))) (re3.step l4 s4) l4 rfl⟩
      · exact h3.elim
    · exact h3.elim
end
end Gs

/-! G9: walks, constants, ends; reckoning with the functions over data and store. -/
namespace Gs
open PySem L2
theorem hu_big {A : Around} {k : Nat} (hr : Room k A) : A.units + 64 < cLine := hr.units
/-- turns that a while may take -/
def fuel : Nat := 100000
/-- what is asked of the law: a script's numbers, True -/
def spL (K : PySem.W.Frag) (F : List D → Sto → R D) : Sp := fun vs H Q E => ∃ (a : Addr) (ns : List Int) (s' : Sto), vs = [.ref a] ∧ SqL K H a (ns.map V.int) ∧ F [.lst (ns.map D.int)] [] = .ok (.bl true) s' ∧ ∀ H', Q (.bl true) H'
theorem fn_law {P : Program} {w : World} {K : PySem.W.Frag} {mg : Str → Option Value} {base : Heap} {CX : CXT} {k : Nat} {f : Addr} {fd : FuncData} {ps : List Str} {ct : String → Addr} {F : List D → Sto → R D} (h : FnOk P w K mg base CX k f fd ps (spG K ct 1 F)) :
    FnOk P w K mg base CX k f fd ps (spL K F) := by
  have cv : ∀ (vs : List V) (H : Hp) (Q : VK) (E : XK), spL K F vs H Q E → spG K ct 1 F vs H Q E := by
    rintro vs H Q E ⟨a, ns, s', rfl, hS, hF, q⟩
    refine ⟨⟨H, H, fun _ => none, []⟩, [.lst (ns.map D.int)], rfl, ⟨Same.refl _, fun _ _ => rfl, fun i o e => ?_, fun i j o u a e => ?_, fun i kvs e => by simp at e⟩, rfl, .cons (.lst hS (RepL.ints ns)) .nil, ?_⟩
    · simp at e
    · simp at e
    · show match F [.lst (ns.map D.int)] [] with
        | .ok d s => _
        | .exc e s => _
        | .stk => _
      rw [hF]
      intro x v' l sr es r
      cases r
      exact q v'.H
  exact ⟨fun vs H Q E z => h.len vs H Q E (cv vs H Q E z), fun A outer s H args us vs Q E a b c d z => h.run A outer s H args us vs Q E a b c d (cv vs H Q E z)⟩
theorem law_sp {K : PySem.W.Frag} {H : Hp} {a : Addr} {ns : List Int} {F : List D → Sto → R D} (hS : SqL K H a (ns.map V.int)) (h : ∃ s', F [.lst (ns.map D.int)] [] = .ok (.bl true) s') : spL K F [.ref a] H (fun v _ => v = .bl true) fun _ _ _ => False :=
  let ⟨s', e⟩ := h
  ⟨a, ns, s', rfl, hS, e, fun _ => rfl⟩
theorem law_cx {P : Program} {w : World} {H : Hp} {s : Shared} {e : Value} {s' : Shared} (h : L2.CX P w [] H s (fun _ _ _ => False) e s') : False := by
  obtain ⟨_, _, _, _, _, _, _, _, _, _, _, _, z⟩ := h
  exact z
/-! ### constants of the module -/
def KC (K : PySem.W.Frag) (mg : Str → Option Value) (x : Str) (d : D) : Prop := ∀ ct : String → Addr, ∃ v u, mg x = some u ∧ RelV v u ∧ ∀ G m, Rep K ct G m d v
theorem se_con {X : Cx} {C : Cc} {x : Str} {d : D} {pos : Pos} (h : KC X.K X.mg x d) (hg : Gl X x := by rfl) (hd : (x == ("__debug__" : Str)) = false := by decide) : SE X C (.Name x pos) (eC d) := by
  obtain ⟨v, u, hm, r, q⟩ := h C.ct
  exact se_const (pe_glob hg hm r hd) q
theorem kc_tup {K : PySem.W.Frag} {mg : Str → Option Value} {x : Str} {ss : List Str} {a : Addr} {o : Obj} {its : Array Value} {n : Nat} (hm : mg x = some (.ref a)) (hl : K.lookup a = some o) (hc : o.cls = .type "tuple") (hd : o.data = .seq its n) (hs : its.size ≤ sizeLine) (hv : Vals (ss.map V.str) its.toList) : KC K mg x (.tup (ss.map .str)) :=
  fun ct => ⟨.ref a, .ref a, hm, rfl, fun G m => .tup (.inr ⟨o, its, n, hl, hc, hd, hs, hv⟩) (RepL.strs ss)⟩
/-- what is known of an own class of the program, over ValueError, without own __init__ -/
structure XC (K : PySem.W.Frag) (mg : Str → Option Value) (ct : String → Addr) (cn : String) : Prop where
  g : mg (Str.ofString cn) = some (.ref (ct cn))
  k : PySem.W.keepIn K (.ref (ct cn)) = true
  q : PySem.W.excIn K (ct cn) [.type "ValueError", .type "Exception", .type "BaseException", .type "object"] "ValueError.__new__" = true
  b : PySem.W.subIn K (.ref (ct cn)) (.type "BaseException") = some true
  t : PySem.W.typeIn K (.ref (ct cn)) = some (.type "type")
  d : PySem.W.hasDictIn K (ct cn) = true

section
variable {X : Cx} {C : Cc} {pos : Pos}
def sRaise (cn : String) : S := fun δ s => .exc ⟨cn, []⟩ δ s
theorem ss_raise {cn : String} {m : Str} {j : Nat} {p p2 p3 : Pos} (hc : X.calm = true) (tk : Takes X C.W) (c : XC X.K X.mg C.ct cn) (hg : Gl X (Str.ofString cn)) (hdb : ((Str.ofString cn) == ("__debug__" : Str)) = false := by decide) :
    SS X C (.Raise (some (.Call (.Name (Str.ofString cn) p) [.Constant (.str m) j p2] [] p3)) none pos) (sRaise cn) :=
  ps_weak (ps_raise hc tk (pmk_own PySem.F.excBase_ValueError c.q c.g c.k (raises_own c.b c.t) hg hdb)) fun Dn σ H ⟨δ, v, re, eH, h⟩ => by
    subst eH
    exact h _ none σ v re .refl rfl ⟨rfl, .inl ⟨rfl, rfl⟩⟩
end
/-! ### walks -/
/-! max, min of a list of numbers -/
def maxI : List Int → Option Int
  | [] => none
  | x :: xs => match maxI xs with
    | none => some x
    | some m => some (if x ≤ m then m else x)
def minI : List Int → Option Int
  | [] => none
  | x :: xs => match minI xs with
    | none => some x
    | some m => some (if m ≤ x then m else x)
theorem maxI_none : ∀ {xs : List Int}, maxI xs = none → xs = []
  | [], _ => rfl
  | x :: xs, h => by
    simp only [maxI] at h
    split at h <;> exact nomatch h
theorem minI_none : ∀ {xs : List Int}, minI xs = none → xs = []
  | [], _ => rfl
  | x :: xs, h => by
    simp only [minI] at h
    split at h <;> exact nomatch h
theorem maxI_spec : ∀ {xs : List Int} {m : Int}, maxI xs = some m → m ∈ xs ∧ ∀ y ∈ xs, y ≤ m
  | [], m, h => nomatch h
  | x :: xs, m, h => by
    simp only [maxI] at h
    split at h
    · rename_i e
      have := maxI_none e
      subst this
      cases h
      exact ⟨by simp, fun y hy => by simp at hy; omega⟩
    · rename_i m' e
      obtain ⟨h1, h2⟩ := maxI_spec e
      simp only [Option.some.injEq] at h
      subst h
      refine ⟨?_, fun y hy => ?_⟩
      · split
        · exact List.mem_cons_of_mem _ h1
        · exact List.mem_cons_self
      · rcases List.mem_cons.mp hy with rfl | hy
        · split <;> omega
        · have := h2 y hy
          split <;> omega
theorem minI_spec : ∀ {xs : List Int} {m : Int}, minI xs = some m → m ∈ xs ∧ ∀ y ∈ xs, m ≤ y
  | [], m, h => nomatch h
  | x :: xs, m, h => by
    simp only [minI] at h
    split at h
    · rename_i e
      have := minI_none e
      subst this
      cases h
      exact ⟨by simp, fun y hy => by simp at hy; omega⟩
    · rename_i m' e
      obtain ⟨h1, h2⟩ := minI_spec e
      simp only [Option.some.injEq] at h
      subst h
      refine ⟨?_, fun y hy => ?_⟩
      · split
        · exact List.mem_cons_of_mem _ h1
        · exact List.mem_cons_self
      · rcases List.mem_cons.mp hy with rfl | hy
        · split <;> omega
        · have := h2 y hy
          split <;> omega

section
variable {K : PySem.W.Frag} {ct : String → Addr} {v : Vw}
theorem RE.frz {C : Cc} {σ : L2.St} {δ : Sl} {v : Vw} (r : RE K C σ δ v) : Le C.v0 v := r.le
def enumD (xs : List D) : List D := xs.zipIdx.map fun p => .tup [.int (p.2 : Nat), p.1]
theorem itOk_enum {a : Addr} {vs : List V} {ds : List D} (h : SqL K v.G a vs) (r : RepL K ct v.G v.m ds vs) : ItOk K ct (Ite K a) v (enumD ds) where
  go := fun i w l s hi => by
    have hi' : i < ds.length := by simpa [enumD] using hi
    obtain ⟨x, e, _⟩ := r.get (List.getElem?_eq_getElem hi')
    exact ⟨vs, x, s.sub.seq (l.g.seq h), e⟩
  stop := fun i w l s hi => by
    have : ds.length ≤ i := by simpa [enumD] using hi
    exact ⟨vs, s.sub.seq (l.g.seq h), by rw [← r.length]; exact this⟩
  yld := fun i w z H' l s hi y => by
    have hi' : i < ds.length := by simpa [enumD] using hi
    obtain ⟨x, e, rv⟩ := r.get (List.getElem?_eq_getElem hi')
    obtain ⟨T, x', rfl, hT, rfl, y2⟩ := y
    have z2 := y2 vs (s.sub.seq (l.g.seq h))
    rw [e] at z2
    cases z2
    obtain ⟨l2, s2⟩ := new_ok (o := .tup [.int (i : Nat), x]) s hT
    exact ⟨.tup [.int (i : Nat), ds[i]], w.new T (.tup [.int (i : Nat), x]), by simp [enumD, hi'], rfl, l2, s2, rfl, .tup (SqT.of upd_same) (.cons (.int _) (.cons (l2.rep (l.rep rv)) .nil))⟩
theorem itOk_rev {a : Addr} {vs : List V} {ds : List D} (h : SqL K v.G a vs) (r : RepL K ct v.G v.m ds vs) : ItOk K ct (Itv K a vs.length) v ds.reverse where
  go := fun i w l s hi => by
    have hi' : i < ds.length := by simpa using hi
    have hl := r.length
    obtain ⟨x, e, _⟩ := r.get (List.getElem?_eq_getElem (show vs.length - 1 - i < ds.length by omega))
    exact ⟨by omega, vs, x, s.sub.seq (l.g.seq h), e⟩
  stop := fun i w l s hi => by
    have hl := r.length
    have : ds.length ≤ i := by simpa using hi
    show vs.length ≤ i
    omega
  yld := fun i w x H' l s hi y => by
    have hi' : i < ds.length := by simpa using hi
    have hl := r.length
    have hi2 : vs.length - 1 - i < ds.length := by omega
    obtain ⟨x0, e, rv⟩ := r.get (List.getElem?_eq_getElem hi2)
    obtain ⟨rfl, y2⟩ := y
    have z := y2 vs (s.sub.seq (l.g.seq h))
    rw [e] at z
    cases z
    refine ⟨_, w, ?_, rfl, .refl, s, rfl, l.rep rv⟩
    rw [List.getElem?_reverse hi', List.getElem?_eq_getElem (by omega)]
    congr 1
    exact getElem_congr rfl (by omega) _
def zipD (xs ys : List D) : List D := List.zipWith (fun x y => .tup [x, y]) xs ys
theorem zipD_get {xs ys : List D} {i : Nat} (hi : i < (zipD xs ys).length) : ∃ x y, xs[i]? = some x ∧ ys[i]? = some y ∧ (zipD xs ys)[i]? = some (.tup [x, y]) := by
  have h1 : i < xs.length ∧ i < ys.length := by
    simp only [zipD, List.length_zipWith] at hi
    omega
  exact ⟨xs[i], ys[i], List.getElem?_eq_getElem h1.1, List.getElem?_eq_getElem h1.2, by simp [zipD, List.getElem?_zipWith, h1.1, h1.2]⟩
theorem itOk_zip {a b : Addr} {vs us : List V} {ds es : List D} (h : SqL K v.G a vs) (h2 : SqL K v.G b us) (r : RepL K ct v.G v.m ds vs) (r2 : RepL K ct v.G v.m es us) : ItOk K ct (Itz K a b) v (zipD ds es) where
  go := fun i w l s hi => by
    obtain ⟨x, y, e1, e2, _⟩ := zipD_get hi
    obtain ⟨x1, e3, _⟩ := r.get e1
    obtain ⟨y1, e4, _⟩ := r2.get e2
    exact ⟨vs, us, x1, y1, s.sub.seq (l.g.seq h), s.sub.seq (l.g.seq h2), e3, e4⟩
  stop := fun i w l s hi => by
    have := hi
    simp only [zipD, List.length_zipWith] at this
    have hl := r.length
    have hl2 := r2.length
    exact ⟨vs, us, s.sub.seq (l.g.seq h), s.sub.seq (l.g.seq h2), by omega⟩
  yld := fun i w z H' l s hi y => by
    obtain ⟨dx, dy, e1, e2, e5⟩ := zipD_get hi
    obtain ⟨x1, e3, rv⟩ := r.get e1
    obtain ⟨y1', e4, ru⟩ := r2.get e2
    obtain ⟨T, x0, y0, rfl, hT, rfl, y1, y2⟩ := y
    have z := y1 vs (s.sub.seq (l.g.seq h))
    rw [e3] at z
    cases z
    have z2 := y2 us (s.sub.seq (l.g.seq h2))
    rw [e4] at z2
    cases z2
    obtain ⟨l2, s2⟩ := new_ok (o := .tup [x1, y1']) s hT
    exact ⟨.tup [dx, dy], w.new T (.tup [x1, y1']), e5, rfl, l2, s2, rfl, .tup (SqT.of upd_same) (.cons (l2.rep (l.rep rv)) (.cons (l2.rep (l.rep ru)) .nil))⟩
theorem itOk_zipT {a b : Addr} {vs us : List V} {ds es : List D} (h : SqT K v.G a vs) (h2 : SqT K v.G b us) (r : RepL K ct v.G v.m ds vs) (r2 : RepL K ct v.G v.m es us) : ItOk K ct (RZ.ItzT K a b) v (zipD ds es) where
  go := fun i w l s hi => by
    obtain ⟨x, y, e1, e2, _⟩ := zipD_get hi
    obtain ⟨x1, e3, _⟩ := r.get e1
    obtain ⟨y1, e4, _⟩ := r2.get e2
    exact ⟨vs, us, x1, y1, sqt_mono s.sub (sqt_mono l.g h), sqt_mono s.sub (sqt_mono l.g h2), e3, e4⟩
  stop := fun i w l s hi => by
    have := hi
    simp only [zipD, List.length_zipWith] at this
    have hl := r.length
    have hl2 := r2.length
    exact ⟨vs, us, sqt_mono s.sub (sqt_mono l.g h), sqt_mono s.sub (sqt_mono l.g h2), by omega⟩
  yld := fun i w z H' l s hi y => by
    obtain ⟨dx, dy, e1, e2, e5⟩ := zipD_get hi
    obtain ⟨x1, e3, rv⟩ := r.get e1
    obtain ⟨y1', e4, ru⟩ := r2.get e2
    obtain ⟨T, x0, y0, rfl, hT, rfl, y1, y2⟩ := y
    have z := y1 vs (sqt_mono s.sub (sqt_mono l.g h))
    rw [e3] at z
    cases z
    have z2 := y2 us (sqt_mono s.sub (sqt_mono l.g h2))
    rw [e4] at z2
    cases z2
    obtain ⟨l2, s2⟩ := new_ok (o := .tup [x1, y1']) s hT
    exact ⟨.tup [dx, dy], w.new T (.tup [x1, y1']), e5, rfl, l2, s2, rfl, .tup (SqT.of upd_same) (.cons (l2.rep (l.rep rv)) (.cons (l2.rep (l.rep ru)) .nil))⟩
theorem itOk_rngC {lo : Int} {n : Nat} : ItOk K ct (Itc (lo + (n : Int) - 1) (-1) n) v (rngD lo n).reverse where
  go := fun i w l s hi => by show i < n; simpa [rngD] using hi
  stop := fun i w l s hi => by show n ≤ i; simpa [rngD] using hi
  yld := fun i w z H' l s hi y => by
    obtain ⟨rfl, rfl⟩ := y
    have hi' : i < n := by simpa [rngD] using hi
    refine ⟨_, w, ?_, rfl, .refl, s, rfl, .int _⟩
    rw [List.getElem?_reverse (by simpa [rngD] using hi'), ints_get (by simp only [rngD, List.length_map, List.length_range]; omega)]
    congr 2
    simp only [rngD, List.length_map, List.length_range]
    omega
def rngS (lo c : Int) (n : Nat) : List D := (List.range n).map fun (i : Nat) => .int (lo + (i : Int) * c)
theorem rngS_get {lo c : Int} {n i : Nat} (h : i < n) : (rngS lo c n)[i]? = some (.int (lo + (i : Int) * c)) := by simp [rngS, h]
theorem itOk_rngS {lo c : Int} {n : Nat} : ItOk K ct (Itc lo c n) v (rngS lo c n) where
  go := fun i w l s hi => by show i < n; simpa [rngS] using hi
  stop := fun i w l s hi => by show n ≤ i; simpa [rngS] using hi
  yld := fun i w z H' l s hi y => by
    obtain ⟨rfl, rfl⟩ := y
    exact ⟨_, w, rngS_get (by simpa [rngS] using hi), rfl, .refl, s, rfl, .int _⟩
end
def iEnumD (a : As) : As := fun δ s => (a δ s).bind fun ds s1 => match ds with
  | [.lst xs] => .ok (enumD xs) s1
  | _ => .stk
def iRevD (a : As) : As := fun δ s => (a δ s).bind fun ds s1 => match ds with
  | [.lst xs] => .ok xs.reverse s1
  | _ => .stk
def iZipD (a : As) : As := fun δ s => (a δ s).bind fun ds s1 => match ds with
  | [.lst xs, .lst ys] => .ok (zipD xs ys) s1
  | [.tup xs, .tup ys] => .ok (zipD xs ys) s1
  | _ => .stk
def iRevR2 (a b : E) : As := fun δ s => (a δ s).bind fun x s1 => (b δ s1).bind fun y s2 => match x, y with
  | .int i, .int j => if -(2 ^ 62) ≤ i ∧ i < 2 ^ 62 ∧ -(2 ^ 62) ≤ j ∧ j < 2 ^ 62 then .ok (rngD i (j - i).toNat).reverse s2 else .stk
  | _, _ => .stk
def rng3Ok (i j c : Int) : Prop := c ≠ 0 ∧ c.natAbs < 1073741824 ∧ Builtin.Range.small i j c = true ∧ 0 ≤ Builtin.Range.rangeSize i j c
instance (i j c : Int) : Decidable (rng3Ok i j c) := inferInstanceAs (Decidable (c ≠ 0 ∧ c.natAbs < 1073741824 ∧ Builtin.Range.small i j c = true ∧ 0 ≤ Builtin.Range.rangeSize i j c))
def iRange3 (a : As) : As := fun δ s => (a δ s).bind fun ds s1 => match ds with
  | [.int i, .int j, .int c] => if rng3Ok i j c then .ok (rngS i c (Builtin.Range.rangeSize i j c).toNat) s1 else .stk
  | _ => .stk
section
variable {X : Cx} {C : Cc} {tg : Expr}
theorem si_enum {e : Expr} {f : As} {p pos tpos : Pos} {elts : List Expr} {kk : Nat} (hg : Gl X "enumerate") (hm : X.mg "enumerate" = none) (ha : SA X C [e] f) (hs : starEach [e] X.env = [(false, eval e X.env)] := by rfl) :
    SI X C (.Tuple elts kk tpos) (.Call (.Name "enumerate" p) [e] [] pos) (iEnumD f) :=
  pi_weak (pi_enum hg hm ha hs) fun σ H R ⟨δ, v, re, eH, h⟩ => ⟨δ, v, re, eH, on_mono (on_bind h) fun ds vs v1 l1 s1 r1 h1 => by
    split at h1
    · cases r1 with
      | cons r2 r3 =>
        cases r3
        cases r2 with
        | @lst _ _ a us _ pp q => exact ⟨a, us, rfl, s1.sub.seq pp, on_self s1 h1 (itOk_enum pp q)⟩
    · exact h1.elim⟩
theorem si_rev {e : Expr} {f : As} {p pos : Pos} (hg : Gl X "reversed") (hm : X.mg "reversed" = none) (ha : SA X C [e] f) (hs : starEach [e] X.env = [(false, eval e X.env)] := by rfl) : SI X C tg (.Call (.Name "reversed" p) [e] [] pos) (iRevD f) :=
  pi_weak (pi_reversed hg hm ha hs) fun σ H R ⟨δ, v, re, eH, h⟩ => ⟨δ, v, re, eH, on_mono (on_bind h) fun ds vs v1 l1 s1 r1 h1 => by
    split at h1
    · cases r1 with
      | cons r2 r3 =>
        cases r3
        cases r2 with
        | @lst _ _ a us _ pp q => exact ⟨a, us, rfl, s1.sub.seq pp, on_self s1 h1 (itOk_rev pp q)⟩
    · exact h1.elim⟩
theorem si_zip {e e2 : Expr} {f : As} {p pos tpos : Pos} {elts : List Expr} {kk : Nat} (hg : Gl X "zip") (hm : X.mg "zip" = none) (ha : SA X C [e, e2] f)
    (hs : starEach [e, e2] X.env = (false, eval e X.env) :: starEach [e2] X.env := by rfl) (hpl : (backTo pos (starEach [e2] X.env)).any (·.1) = false := by rfl) :
    SI X C (.Tuple elts kk tpos) (.Call (.Name "zip" p) [e, e2] [] pos) (iZipD f) :=
  pi_weak (RZ.pi_zipA hg hm ha hs hpl) fun σ H R ⟨δ, v, re, eH, h⟩ => ⟨δ, v, re, eH, on_mono (on_bind h) fun ds vs v1 l1 s1 r1 h1 => by
    split at h1
    · cases r1 with
      | cons r2 r3 =>
        cases r3 with
        | cons r3 r4 =>
          cases r4
          cases r2 with
          | @lst _ _ a us _ pp q =>
            cases r3 with
            | @lst _ _ b ws _ pp2 q2 => exact ⟨a, b, us, ws, rfl, .inl ⟨s1.sub.seq pp, s1.sub.seq pp2, on_self s1 h1 (itOk_zip pp pp2 q q2)⟩⟩
    · cases r1 with
      | cons r2 r3 =>
        cases r3 with
        | cons r3 r4 =>
          cases r4
          cases r2 with
          | @tup _ _ a us _ pp q =>
            cases r3 with
            | @tup _ _ b ws _ pp2 q2 => exact ⟨a, b, us, ws, rfl, .inr ⟨sqt_mono s1.sub pp, sqt_mono s1.sub pp2, on_self s1 h1 (itOk_zipT pp pp2 q q2)⟩⟩
    · exact h1.elim⟩
theorem si_revR2 {a b : Expr} {fa fb : E} {p p2 pos pos2 : Pos} (hg : Gl X "reversed") (hm : X.mg "reversed" = none) (hgr : Gl X "range") (hmr : X.mg "range" = none) (ha : SE X C a fa) (hb : SE X C b fb)
    (hs : starEach [.Call (.Name "range" p2) [a, b] [] pos2] X.env = (false, eval (.Call (.Name "range" p2) [a, b] [] pos2) X.env) :: starEach [] X.env := by rfl)
    (hs1 : starEach [a, b] X.env = (false, eval a X.env) :: starEach [b] X.env := by rfl) (hs2 : starEach [b] X.env = (false, eval b X.env) :: starEach [] X.env := by rfl) (hp : (backTo pos2 (starEach [b] X.env)).any (·.1) = false := by rfl) :
    SI X C tg (.Call (.Name "reversed" p) [.Call (.Name "range" p2) [a, b] [] pos2] [] pos) (iRevR2 fa fb) :=
  pi_weak (pi_revR hg hm (prg_2 hgr hmr ha hb hs1 hs2 hp) hs) fun σ H R ⟨δ, v, re, eH, h⟩ => ⟨δ, v, re, eH, on_mono (on_bind h) fun d x v1 l1 s1 r1 h1 => ⟨δ, v1, re.step l1 s1, rfl, on_mono (on_bind h1) fun d2 x2 v2 l2 s2 r2 h2 => by
    split at h2
    · cases r1
      cases r2
      split at h2
      · rename_i hz
        exact ⟨_, _, rfl, rfl, hz.1, hz.2.1, hz.2.2.1, hz.2.2.2, on_self s2 h2 itOk_rngC⟩
      · exact h2.elim
    · exact h2.elim⟩⟩
theorem si_range3 {a b c : Expr} {f : As} {p pos : Pos} (hg : Gl X "range") (hm : X.mg "range" = none) (ha : SA X C [a, b, c] f)
    (hs : starEach [a, b, c] X.env = (false, eval a X.env) :: starEach [b, c] X.env := by rfl) (hpl : (backTo pos (starEach [b, c] X.env)).any (·.1) = false := by rfl) :
    SI X C tg (.Call (.Name "range" p) [a, b, c] [] pos) (iRange3 f) :=
  pi_weak (pi_range3 hg hm ha hs hpl) fun σ H R ⟨δ, v, re, eH, h⟩ => ⟨δ, v, re, eH, on_mono (on_bind h) fun ds vs v1 l1 s1 r1 h1 => by
    split at h1
    · rename_i i j c
      cases r1 with
      | cons r2 r3 =>
        cases r2
        cases r3 with
        | cons r4 r5 =>
          cases r4
          cases r5 with
          | cons r6 r7 =>
            cases r6
            cases r7
            split at h1
            · rename_i hz
              obtain ⟨z1, z2, z3, z4⟩ := hz
              exact ⟨_, _, _, _, rfl, ⟨z1, z2, z3, (Int.toNat_of_nonneg z4).symm⟩, on_self s1 h1 itOk_rngS⟩
            · exact h1.elim
    · exact h1.elim⟩
def eBits (f : E) : E := fun δ s => (f δ s).bind fun d s1 => match d with
  | .int i => .ok (.int (Builtin.Int.intBits i : Nat)) s1
  | _ => .stk
theorem se_bits {o : Expr} {f : E} {apos pos : Pos} (ho : SE X C o f) (hbase : attributeBase o "bit_length" X.env (eval o X.env) = eval o X.env := by rfl) (hline : (apos.endLine == pos.line) = true := by rfl) : SE X C (.Call (.Attribute o "bit_length" apos) [] [] pos) (eBits f) :=
  pe_weak (pe_bits ho hbase hline) fun σ H Q ⟨δ, v, re, eH, h⟩ => ⟨δ, v, re, eH, on_mono (on_bind h) fun d x v1 l1 s1 r1 h1 => by
    cases r1 with
    | int i => exact ⟨i, rfl, on_self s1 h1 (.int _)⟩
    | _ => exact h1.elim⟩
end
/-! ### reckoning -/
theorem runG_rt {N : Nat} {body : S} {ds : List D} {s s' : Sto} {d : D} (h : body (ds.map some ++ List.replicate (N - ds.length) none) s = .rt d s') : runG N body ds s = .ok d s' := by unfold runG; rw [h]
theorem runG_nx {N : Nat} {body : S} {ds : List D} {s s' : Sto} {δ : Sl} (h : body (ds.map some ++ List.replicate (N - ds.length) none) s = .nx δ s') : runG N body ds s = .ok .non s' := by unfold runG; rw [h]
theorem runG_exc {N : Nat} {body : S} {ds : List D} {s s' : Sto} {e : Ex} {δ : Sl} (h : body (ds.map some ++ List.replicate (N - ds.length) none) s = .exc e δ s') : runG N body ds s = .exc e s' := by unfold runG; rw [h]
/-- a loop whose turns go on -/
theorem forD_inv {p : Pt} {body : S} (Inv : Nat → Sl → Sto → Prop) : ∀ (items : List D) (k : Nat) (δ : Sl) (s : Sto), Inv k δ s →
    (∀ i d δ s, items[i]? = some d → Inv (k + i) δ s → ∃ δ1, bindP p d δ = some δ1 ∧ ∃ δ2 s2, body δ1 s = .nx δ2 s2 ∧ Inv (k + i + 1) δ2 s2) → ∃ δ' s', forD p body items δ s = .nx δ' s' ∧ Inv (k + items.length) δ' s'
  | [], k, δ, s, h0, _ => ⟨δ, s, rfl, h0⟩
  | d :: ds, k, δ, s, h0, hs => by
    obtain ⟨δ1, e1, δ2, s2, e2, h2⟩ := hs 0 d δ s rfl h0
    obtain ⟨δ', s', e3, h3⟩ := forD_inv Inv ds (k + 1) δ2 s2 h2 fun i d δ s hd hi => by
      have z := hs (i + 1) d δ s (by simpa using hd) (by rw [show k + (i + 1) = k + 1 + i by omega]; exact hi)
      rw [show k + (i + 1) + 1 = k + 1 + i + 1 by omega] at z
      exact z
    refine ⟨δ', s', ?_, by rw [List.length_cons, show k + (ds.length + 1) = k + 1 + ds.length by omega]; exact h3⟩
    simp only [forD, e1, e2, e3]
theorem rngD_length (lo : Int) (n : Nat) : (rngD lo n).length = n := by simp [rngD]
theorem rngD_some {lo : Int} {n i : Nat} {d : D} (h : (rngD lo n)[i]? = some d) : i < n ∧ d = .int (lo + (i : Int)) := by
  have hi : i < n := by
    have := (List.getElem?_eq_some_iff.mp h).1
    simpa [rngD] using this
  rw [ints_get hi] at h
  exact ⟨hi, (Option.some.inj h).symm⟩
theorem forR {p : Pt} {body : S} {lo : Int} {n : Nat} {δ : Sl} {s : Sto} (Inv : Nat → Sl → Sto → Prop) (h0 : Inv 0 δ s)
    (hs : ∀ i δ s, i < n → Inv i δ s → ∃ δ1, bindP p (.int (lo + (i : Int))) δ = some δ1 ∧ ∃ δ2 s2, body δ1 s = .nx δ2 s2 ∧ Inv (i + 1) δ2 s2) : ∃ δ' s', forD p body (rngD lo n) δ s = .nx δ' s' ∧ Inv n δ' s' := by
  have z := forD_inv (p := p) (body := body) Inv (rngD lo n) 0 δ s h0 fun i d δ s hd hi => by
    obtain ⟨h1, h2⟩ := rngD_some hd
    subst h2
    rw [Nat.zero_add] at hi ⊢
    exact hs i δ s h1 hi
  rw [Nat.zero_add, rngD_length] at z
  exact z
theorem whileK {c : T} {body : S} (Inv : Nat → Sl → Sto → Prop)
    (hs : ∀ k δ s, Inv k δ s → c δ s = .ok false s ∨ (c δ s = .ok true s ∧ ∃ δ2 s2, body δ s = .nx δ2 s2 ∧ ∃ k', k' < k ∧ Inv k' δ2 s2)) : ∀ (n k : Nat) (δ : Sl) (s : Sto), Inv k δ s → k < n → ∃ δ' s' k', whileD c body n δ s = .nx δ' s' ∧ Inv k' δ' s' ∧ c δ' s' = .ok false s'
  | 0, k, δ, s, _, h => by omega
  | n + 1, k, δ, s, hi, h => by
    rcases hs k δ s hi with hc | ⟨hc, δ2, s2, hb, k2, hk, hi2⟩
    · exact ⟨δ, s, k, by simp only [whileD, hc], hi, hc⟩
    · obtain ⟨δ', s', k', e, h2⟩ := whileK Inv hs n k2 δ2 s2 hi2 (by omega)
      exact ⟨δ', s', k', by simp only [whileD, hc, hb, e], h2⟩
/-- turns of a comprehension that leave the store -/
theorem lcD_mapL {α : Type} {p : Pt} {c : T} {e : E} {δ : Sl} {s : Sto} (g f : α → D) : ∀ l : List α, (∀ a ∈ l, ∃ δ1, bindP p (g a) δ = some δ1 ∧ c δ1 s = .ok true s ∧ e δ1 s = .ok (f a) s) → lcD p c e δ (l.map g) s = .ok (l.map f) s
  | [], _ => rfl
  | x :: l, h => by
    obtain ⟨δ1, e1, e2, e3⟩ := h x (by simp)
    have ih := lcD_mapL (p := p) (c := c) (e := e) (δ := δ) (s := s) g f l fun k hk => h k (by simp [hk])
    simp only [List.map_cons, lcD, e1, e2, e3, ih]
theorem ixN_ofNat {n j : Nat} (h : j < n) : ixN n (j : Int) = some j := by
  unfold ixN
  rw [if_pos (by omega), if_pos (by omega)]
  simp
theorem atI_ofNat {α : Type} (xs : List α) {j : Nat} (h : j < xs.length) : atI xs (j : Int) = some xs[j] := by
  unfold atI
  rw [ixN_ofNat h]
  exact List.getElem?_eq_getElem h

/-! ### sizes of products -/
theorem bits_le {i : Int} {a : Nat} (h : i.natAbs < 2 ^ a) : Builtin.Int.intBits i ≤ a := by
  unfold Builtin.Int.intBits
  split
  · exact Nat.zero_le _
  · rename_i hz
    have hz' : i.natAbs ≠ 0 := by
      simp only [beq_iff_eq] at hz
      omega
    exact Nat.succ_le_of_lt ((Nat.log2_lt hz').mpr h)
theorem mul_fits {i j : Int} {a b : Nat} (ha : i.natAbs < 2 ^ a) (hb : j.natAbs < 2 ^ b) (h : a + b ≤ 134217728) : IntMulOk i j := mulx_ok ha hb h |>.ok
theorem mul_fitsL {i j : Int} (ha : i.natAbs < 2 ^ 64) : IntMulOk i j := .of_left (bits_le ha)
theorem mul_fitsR {i j : Int} (ha : j.natAbs < 2 ^ 64) : IntMulOk i j := .of_right (bits_le ha)
theorem log_lt {n a : Nat} (h : n < 2 ^ a) (h0 : 0 < a) : n.log2 < a := by
  by_cases hz : n = 0
  · subst hz
    simpa using h0
  · exact (Nat.log2_lt hz).mpr h

@[simp] theorem mulOk_m1 (j : Int) : IntMulOk (-1) j := mul_fitsL (by decide)
@[simp] theorem mulOk_1 (j : Int) : IntMulOk 1 j := mul_fitsL (by decide)
@[simp] theorem mulOk_2 (j : Int) : IntMulOk 2 j := mul_fitsL (by decide)
@[simp] theorem mulOk_3 (j : Int) : IntMulOk 3 j := mul_fitsL (by decide)
@[simp] theorem mulOk_r2 (j : Int) : IntMulOk j 2 := mul_fitsR (by decide)
@[simp] theorem mulOk_r1000 (j : Int) : IntMulOk j 1000 := mul_fitsR (by decide)
@[simp] theorem mulOk_r1000003 (j : Int) : IntMulOk j 1000003 := mul_fitsR (by decide)
theorem log_small {n : Nat} (h : n < 2 ^ 64) : n.log2 < 9000 := Nat.lt_of_lt_of_le (log_lt h (by decide)) (by decide)
/-! ### unfolding -/
def rngOk (j : Int) : Prop := -(2 ^ 62) ≤ j ∧ j < 2 ^ 62
instance (j : Int) : Decidable (rngOk j) := inferInstanceAs (Decidable (-(2 ^ 62) ≤ j ∧ j < 2 ^ 62))
theorem rngOk_of {j : Int} (h1 : -1000000000 ≤ j) (h2 : j ≤ 1000000000) : rngOk j := by
  unfold rngOk
  omega
theorem rngOk_nat {j : Nat} (h : j ≤ 1000000000) : rngOk (j : Int) := rngOk_of (by omega) (by omega)
@[simp] theorem rngOk_0 : rngOk 0 := rngOk_of (by omega) (by omega)
@[simp] theorem rngOk_1 : rngOk 1 := rngOk_of (by omega) (by omega)
def divOk (j : Int) : Prop := 0 < j ∧ j.natAbs.log2 < 9000
instance (j : Int) : Decidable (divOk j) := inferInstanceAs (Decidable (0 < j ∧ j.natAbs.log2 < 9000))
theorem divOk_of {j : Int} {a : Nat} (h : 0 < j) (h2 : j.natAbs < 2 ^ a) (h3 : a ≤ 8999) : divOk j := ⟨h, by
  by_cases h0 : 0 < a
  · exact Nat.lt_of_lt_of_le (log_lt h2 h0) (by omega)
  · have e : a = 0 := by omega
    subst e
    have : (2 : Nat) ^ 0 = 1 := rfl
    omega⟩
theorem divOk_small {j : Int} (h : 0 < j) (h2 : j < 10 ^ 18) : divOk j := divOk_of (a := 64) h (by
  have : (10 : Int) ^ 18 < ((2 ^ 64 : Nat) : Int) := by decide
  omega) (by decide)
@[simp] theorem divOk_1 : divOk 1 := divOk_small (by decide) (by decide)
@[simp] theorem divOk_2 : divOk 2 := divOk_small (by decide) (by decide)
@[simp] theorem divOk_3 : divOk 3 := divOk_small (by decide) (by decide)
@[simp] theorem divOk_4 : divOk 4 := divOk_small (by decide) (by decide)
@[simp] theorem divOk_5 : divOk 5 := divOk_small (by decide) (by decide)
@[simp] theorem divOk_6 : divOk 6 := divOk_small (by decide) (by decide)
@[simp] theorem divOk_7 : divOk 7 := divOk_small (by decide) (by decide)
@[simp] theorem divOk_8 : divOk 8 := divOk_small (by decide) (by decide)
@[simp] theorem divOk_9 : divOk 9 := divOk_small (by decide) (by decide)
@[simp] theorem divOk_10 : divOk 10 := divOk_small (by decide) (by decide)
@[simp] theorem divOk_11 : divOk 11 := divOk_small (by decide) (by decide)
@[simp] theorem divOk_12 : divOk 12 := divOk_small (by decide) (by decide)
@[simp] theorem divOk_24 : divOk 24 := divOk_small (by decide) (by decide)
@[simp] theorem divOk_41 : divOk 41 := divOk_small (by decide) (by decide)
@[simp] theorem divOk_48 : divOk 48 := divOk_small (by decide) (by decide)
@[simp] theorem divOk_60 : divOk 60 := divOk_small (by decide) (by decide)
@[simp] theorem divOk_64 : divOk 64 := divOk_small (by decide) (by decide)
@[simp] theorem divOk_100 : divOk 100 := divOk_small (by decide) (by decide)
@[simp] theorem divOk_1000 : divOk 1000 := divOk_small (by decide) (by decide)
def powOk (i j : Int) : Prop := 0 ≤ j ∧ (Builtin.Int.intBits i : Int) * j ≤ 2 ^ 27
instance (i j : Int) : Decidable (powOk i j) := inferInstanceAs (Decidable (0 ≤ j ∧ (Builtin.Int.intBits i : Int) * j ≤ 2 ^ 27))
theorem powOk_of {i j : Int} {a : Nat} (hi : i.natAbs < 2 ^ a) (h0 : 0 ≤ j) (h : (a : Int) * j ≤ 134217728) : powOk i j := ⟨h0, by
  have h1 := bits_le hi
  have h2 : (Builtin.Int.intBits i : Int) * j ≤ (a : Int) * j := Int.mul_le_mul_of_nonneg_right (by omega) h0
  omega⟩
@[simp] theorem powOk_10 {j : Int} (h0 : 0 ≤ j) (h : j ≤ 1000) : powOk 10 j := powOk_of (a := 4) (by decide) h0 (by omega)
@[simp] theorem powOk_2 {j : Int} (h0 : 0 ≤ j) (h : j ≤ 1000000) : powOk 2 j := powOk_of (a := 2) (by decide) h0 (by omega)
@[simp] theorem powOk_1e60 {j : Int} (h0 : 0 ≤ j) (h : j ≤ 1000) : powOk 1000000000000000000000000000000000000000000000000000000000000 j := powOk_of (a := 200) (by decide) h0 (by omega)

@[simp] theorem v_bind_ok {α β : Type} (a : α) (s : Sto) (k : α → Sto → R β) : (R.ok a s).bind k = k a s := id rfl
@[simp] theorem v_bind_exc {α β : Type} (e : Ex) (s : Sto) (k : α → Sto → R β) : (R.exc e s).bind k = .exc e s := id rfl
@[simp] theorem v_bind_stk {α β : Type} (k : α → Sto → R β) : (R.stk : R α).bind k = .stk := id rfl
@[simp] theorem v_ofO_some {α : Type} (a : α) (s : Sto) : R.ofO (some a) s = .ok a s := id rfl
@[simp] theorem v_ofO_none {α : Type} (s : Sto) : R.ofO (none : Option α) s = .stk := id rfl
@[simp] theorem v_sBind_ok {α : Type} (a : α) (s : Sto) (δ : Sl) (k : α → Sto → RS) : sBind (.ok a s) δ k = k a s := id rfl
@[simp] theorem v_sBind_exc {α : Type} (e : Ex) (s : Sto) (δ : Sl) (k : α → Sto → RS) : sBind (.exc e s : R α) δ k = .exc e δ s := id rfl
@[simp] theorem v_sBind_stk {α : Type} (δ : Sl) (k : α → Sto → RS) : sBind (.stk : R α) δ k = .stk := id rfl
@[simp] theorem v_eV (i : Nat) (δ : Sl) (s : Sto) : eV i δ s = (match δ[i]? with | some (some d) => .ok d s | _ => .stk) := id rfl
@[simp] theorem v_eC (d : D) (δ : Sl) (s : Sto) : eC d δ s = .ok d s := id rfl
@[simp] theorem v_eBin (g : B2) (a b : E) (δ : Sl) (s : Sto) : eBin g a b δ s = (a δ s).bind fun x s1 => (b δ s1).bind fun y s2 => R.ofO (g (rsv s2 x) (rsv s2 y)) s2 := id rfl
@[simp] theorem v_eUn (g : B1) (a : E) (δ : Sl) (s : Sto) : eUn g a δ s = (a δ s).bind fun x s1 => R.ofO (g (rsv s1 x)) s1 := id rfl
@[simp] theorem v_eFn (g : BA) (a : As) (δ : Sl) (s : Sto) : eFn g a δ s = (a δ s).bind fun x s1 => R.ofO (g (x.map (rsv s1))) s1 := id rfl
@[simp] theorem v_eCall (F : List D → Sto → R D) (a : As) (δ : Sl) (s : Sto) : eCall F a δ s = (a δ s).bind F := id rfl
@[simp] theorem v_tV (f : E) (δ : Sl) (s : Sto) : tV f δ s = (f δ s).bind fun d s1 => match d with | .bl b => .ok b s1 | _ => .stk := id rfl
@[simp] theorem v_tNt (f : T) (δ : Sl) (s : Sto) : tNt f δ s = (f δ s).bind fun b s1 => .ok (!b) s1 := id rfl
@[simp] theorem v_tAn (f g : T) (δ : Sl) (s : Sto) : tAn f g δ s = (f δ s).bind fun b s1 => if b = true then g δ s1 else .ok false s1 := id rfl
@[simp] theorem v_tOrr (f g : T) (δ : Sl) (s : Sto) : tOrr f g δ s = (f δ s).bind fun b s1 => if b = true then .ok true s1 else g δ s1 := id rfl
@[simp] theorem v_tTrue (δ : Sl) (s : Sto) : tTrue δ s = .ok true s := id rfl
@[simp] theorem v_eAn (a b : E) (δ : Sl) (s : Sto) : eAn a b δ s = (a δ s).bind fun x s1 => match x with | .bl true => b δ s1 | .bl false => .ok (.bl false) s1 | _ => .stk := id rfl
@[simp] theorem v_eOr (a b : E) (δ : Sl) (s : Sto) : eOr a b δ s = (a δ s).bind fun x s1 => match x with | .bl true => .ok (.bl true) s1 | .bl false => b δ s1 | _ => .stk := id rfl
@[simp] theorem v_eNt (a : E) (δ : Sl) (s : Sto) : eNt a δ s = (a δ s).bind fun x s1 => match x with | .bl k => .ok (.bl !k) s1 | _ => .stk := id rfl
@[simp] theorem v_eIf (t : T) (a b : E) (δ : Sl) (s : Sto) : eIf t a b δ s = (t δ s).bind fun k s1 => if k = true then a δ s1 else b δ s1 := id rfl
@[simp] theorem v_aNil (δ : Sl) (s : Sto) : aNil δ s = .ok [] s := id rfl
@[simp] theorem v_aCons (f : E) (r : As) (δ : Sl) (s : Sto) : aCons f r δ s = (f δ s).bind fun x s1 => (r δ s1).bind fun xs s2 => .ok (x :: xs) s2 := id rfl
@[simp] theorem v_eTup (r : As) (δ : Sl) (s : Sto) : eTup r δ s = (r δ s).bind fun xs s1 => if xs.length ≤ sizeLine then .ok (.tup xs) s1 else .stk := id rfl
@[simp] theorem v_eFz (f : Fr) (δ : Sl) (s : Sto) : eFz f δ s = (f δ s).bind fun xs s1 => .ok (.lst xs) s1 := id rfl
@[simp] theorem v_eNw (f : Fr) (δ : Sl) (s : Sto) : eNw f δ s = (f δ s).bind fun xs s1 => .ok (.ob s1.length) (s1 ++ [.lst xs]) := id rfl
@[simp] theorem v_fLst (r : As) (δ : Sl) (s : Sto) : fLst r δ s = (r δ s).bind fun xs s1 => if xs.length ≤ sizeLine then .ok xs s1 else .stk := id rfl
@[simp] theorem v_fList (f : E) (δ : Sl) (s : Sto) : fList f δ s = (f δ s).bind fun d s1 => match rsv s1 d with | .lst xs => .ok xs s1 | .tup xs => .ok xs s1 | .str x => if x.length ≤ sizeLine then .ok (signs x) s1 else .stk | _ => .stk := id rfl
@[simp] theorem v_sNx (δ : Sl) (s : Sto) : sNx δ s = .nx δ s := id rfl
@[simp] theorem v_sBk (δ : Sl) (s : Sto) : sBk δ s = .bk δ s := id rfl
@[simp] theorem v_sCt (δ : Sl) (s : Sto) : sCt δ s = .ct δ s := id rfl
@[simp] theorem v_sSeq (f g : S) (δ : Sl) (s : Sto) : sSeq f g δ s = (match f δ s with | .nx δ' s' => g δ' s' | r => r) := id rfl
@[simp] theorem v_sRet (f : E) (δ : Sl) (s : Sto) : sRet f δ s = sBind (f δ s) δ fun d s1 => .rt d s1 := id rfl
@[simp] theorem v_sRetN (δ : Sl) (s : Sto) : sRetN δ s = .rt .non s := id rfl
@[simp] theorem v_sIf (t : T) (a b : S) (δ : Sl) (s : Sto) : sIf t a b δ s = sBind (t δ s) δ fun k s1 => if k = true then a δ s1 else b δ s1 := id rfl
@[simp] theorem v_sSet (i : Nat) (f : E) (δ : Sl) (s : Sto) : sSet i f δ s = sBind (f δ s) δ fun d s1 => .nx (δ.set i (some d)) s1 := id rfl
@[simp] theorem v_sAsg (p : Pt) (f : E) (δ : Sl) (s : Sto) : sAsg p f δ s = sBind (f δ s) δ fun d s1 => sBindP p d δ s1 := id rfl
@[simp] theorem v_sFor (it : As) (p : Pt) (b : S) (δ : Sl) (s : Sto) : sFor it p b δ s = sBind (it δ s) δ fun items s1 => forD p b items δ s1 := id rfl
@[simp] theorem v_sAug (i : Nat) (g : B2) (f : E) (δ : Sl) (s : Sto) : sAug i g f δ s = (match δ[i]? with | some (some x) => sBind (f δ s) δ fun y s1 => (match g (rsv s1 x) (rsv s1 y) with | some z => .nx (δ.set i (some z)) s1 | none => .stk) | _ => .stk) := id rfl
@[simp] theorem v_sDrop (f : E) (δ : Sl) (s : Sto) : sDrop f δ s = sBind (f δ s) δ fun _ s1 => .nx δ s1 := id rfl
@[simp] theorem v_sRaise (cn : String) (δ : Sl) (s : Sto) : sRaise cn δ s = .exc ⟨cn, []⟩ δ s := id rfl
@[simp] theorem v_sFrz (i : Nat) (f : S) (δ : Sl) (s : Sto) : sFrz i f δ s = (match δ[i]? with | some (some d) => f (δ.set i (some (frzD s d).1)) (frzD s d).2 | _ => f δ s) := id rfl
@[simp] theorem v_eFrz (f : E) (δ : Sl) (s : Sto) : eFrz f δ s = (f δ s).bind fun d s1 => .ok (frzD s1 d).1 (frzD s1 d).2 := id rfl
@[simp] theorem v_sSetIx (o b e : E) (δ : Sl) (s : Sto) : sSetIx o b e δ s = sBind (e δ s) δ fun d s1 => sBind (o δ s1) δ fun x s2 => sBind (b δ s2) δ fun z s3 => match lsO s3 x, z with
  | some xs, .int k => (match ixN xs.length k with
    | some j => .nx δ (stO s3 x (xs.set j d))
    | none => .stk)
  | _, _ => .stk := id rfl
@[simp] theorem v_eApp (o a : E) (δ : Sl) (s : Sto) : eApp o a δ s = (o δ s).bind fun x s1 => if (lsO s1 x).isSome = true then ((a δ s1).bind fun y s2 => match lsO s2 x with
  | some xs => if xs.length < sizeLine then .ok .non (stO s2 x (xs ++ [y])) else .stk
  | none => .stk) else .stk := id rfl
@[simp] theorem v_ePopAt (o a : E) (δ : Sl) (s : Sto) : ePopAt o a δ s = (o δ s).bind fun x s1 => if (lsO s1 x).isSome = true then ((a δ s1).bind fun y s2 => match lsO s2 x, y with
  | some xs, .int k => if -(2 ^ 63) ≤ k ∧ k < 2 ^ 63 then (match seqIndex? k xs.length with
    | some j => (match xs[j]? with
      | some d => .ok d (stO s2 x (xs.eraseIdx j))
      | none => .stk)
    | none => .stk) else .stk
  | _, _ => .stk) else .stk := id rfl
@[simp] theorem v_nm (i : Nat) (d : D) (δ : Sl) : bindP (.nm i) d δ = some (δ.set i (some d)) := by simp [bindP]
@[simp] theorem v_tp (ps : List Pt) (ds : List D) (δ : Sl) : bindP (.tp ps) (.tup ds) δ = bindPs ps ds δ := by simp [bindP]
@[simp] theorem v_tpl (ps : List Pt) (ds : List D) (δ : Sl) : bindP (.tp ps) (.lst ds) δ = bindPs ps ds δ := by simp [bindP]
@[simp] theorem v_ps0 (δ : Sl) : bindPs [] [] δ = some δ := by simp [bindPs]
@[simp] theorem v_ps1 (p : Pt) (ps : List Pt) (d : D) (ds : List D) (δ : Sl) : bindPs (p :: ps) (d :: ds) δ = (match bindP p d δ with | some δ' => bindPs ps ds δ' | none => none) := by first | (simp only [bindPs]; done) | (simp only [bindPs] <;> rfl)
@[simp] theorem v_sBindP (p : Pt) (d : D) (δ : Sl) (s : Sto) : sBindP p d δ s = (match bindP p d δ with | some δ' => .nx δ' s | none => .stk) := id rfl
@[simp] theorem v_iRange1 (a : As) (δ : Sl) (s : Sto) : iRange1 a δ s = (a δ s).bind fun ds s1 => match ds with | [.int j] => if rngOk j then .ok (rngD 0 j.toNat) s1 else .stk | _ => .stk := id rfl
@[simp] theorem v_iRange2 (a : As) (δ : Sl) (s : Sto) : iRange2 a δ s = (a δ s).bind fun ds s1 => match ds with | [.int i, .int j] => if rngOk i ∧ rngOk j then .ok (rngD i (j - i).toNat) s1 else .stk | _ => .stk := by
  unfold iRange2 rngOk
  congr 1
  funext ds s1
  split <;> simp only [and_assoc]
@[simp] theorem v_iRevR2 (a b : E) (δ : Sl) (s : Sto) : iRevR2 a b δ s = (a δ s).bind fun x s1 => (b δ s1).bind fun y s2 => match x, y with | .int i, .int j => if rngOk i ∧ rngOk j then .ok (rngD i (j - i).toNat).reverse s2 else .stk | _, _ => .stk := by
  unfold iRevR2 rngOk
  congr 1
  funext x s1
  congr 1
  funext y s2
  split <;> simp only [and_assoc]
@[simp] theorem v_iSeq (f : E) (δ : Sl) (s : Sto) : iSeq f δ s = (f δ s).bind fun d s1 => R.ofO (seqOf d) s1 := id rfl
@[simp] theorem v_seqL (xs : List D) : seqOf (.lst xs) = some xs := id rfl
@[simp] theorem v_seqT (xs : List D) : seqOf (.tup xs) = some xs := id rfl
@[simp] theorem v_seqS (x : Str) : seqOf (.str x) = some (signs x) := id rfl
@[simp] theorem v_iEnumD (a : As) (δ : Sl) (s : Sto) : iEnumD a δ s = (a δ s).bind fun ds s1 => match ds with | [.lst xs] => .ok (enumD xs) s1 | _ => .stk := id rfl
@[simp] theorem v_iRevD (a : As) (δ : Sl) (s : Sto) : iRevD a δ s = (a δ s).bind fun ds s1 => match ds with | [.lst xs] => .ok xs.reverse s1 | _ => .stk := id rfl
@[simp] theorem v_iZipD (a : As) (δ : Sl) (s : Sto) : iZipD a δ s = (a δ s).bind fun ds s1 => match ds with | [.lst xs, .lst ys] => .ok (zipD xs ys) s1 | [.tup xs, .tup ys] => .ok (zipD xs ys) s1 | _ => .stk := id rfl
@[simp] theorem v_eSl (a : E) (lo hi : Os) (δ : Sl) (s : Sto) : eSl a lo hi δ s = (a δ s).bind fun x s1 => (lo δ s1).bind fun l s2 => (hi δ s2).bind fun h s3 => R.ofO (gSl (rsv s3 x) l h) s3 := id rfl
@[simp] theorem v_oNone (δ : Sl) (s : Sto) : oNone δ s = .ok none s := id rfl
@[simp] theorem v_oSome (f : E) (δ : Sl) (s : Sto) : oSome f δ s = (f δ s).bind fun d s1 => match d with | .int i => .ok (some i) s1 | _ => .stk := id rfl
@[simp] theorem v_fLc (it : As) (vs : List Nat) (p : Pt) (c : T) (e : E) (δ : Sl) (s : Sto) : fLc it vs p c e δ s = (it δ s).bind fun items s1 => (lcD p c e (wipeD δ vs) items s1).bind fun xs s2 => if xs.length ≤ sizeLine then .ok xs s2 else .stk := id rfl
@[simp] theorem v_eChain (g g' : B2) (a b c : E) (δ : Sl) (s : Sto) : eChain g g' a b c δ s = (a δ s).bind fun x s1 => (b δ s1).bind fun y s2 => (R.ofO (g (rsv s2 x) (rsv s2 y)) s2).bind fun z s3 => match z with | .bl true => (c δ s3).bind fun w s4 => R.ofO (g' (rsv s4 y) (rsv s4 w)) s4 | .bl false => .ok (.bl false) s3 | _ => .stk := id rfl
@[simp] theorem v_eM1 (g : D → List D → Option D) (o a : E) (δ : Sl) (s : Sto) : eM1 g o a δ s = (o δ s).bind fun x s1 => if isStr x then (a δ s1).bind fun y s2 => R.ofO (g x [rsv s2 y]) s2 else .stk := id rfl
@[simp] theorem v_isStr (x : Str) : isStr (.str x) = true := id rfl
@[simp] theorem v_eBits (f : E) (δ : Sl) (s : Sto) : eBits f δ s = (f δ s).bind fun d s1 => match d with
  | .int i => .ok (.int (Builtin.Int.intBits i : Nat)) s1
  | _ => .stk := id rfl
@[simp] theorem r_non (s : Sto) : rsv s .non = .non := id rfl
@[simp] theorem r_bl (s : Sto) (b : Bool) : rsv s (.bl b) = .bl b := id rfl
@[simp] theorem r_int (s : Sto) (b : Int) : rsv s (.int b) = .int b := id rfl
@[simp] theorem r_str (s : Sto) (b : Str) : rsv s (.str b) = .str b := id rfl
@[simp] theorem r_tup (s : Sto) (b : List D) : rsv s (.tup b) = .tup b := id rfl
@[simp] theorem r_lst (s : Sto) (b : List D) : rsv s (.lst b) = .lst b := id rfl
theorem r_ob {s : Sto} {i : Nat} {xs : List D} (h : s[i]? = some (.lst xs)) : rsv s (.ob i) = .lst xs := by unfold rsv; simp only [h]
theorem lsO_ob {s : Sto} {i : Nat} {xs : List D} (h : s[i]? = some (.lst xs)) : lsO s (.ob i) = some xs := by unfold lsO; simp only [h]
theorem frz_ob {s : Sto} {i : Nat} {xs : List D} (h : s[i]? = some (.lst xs)) : frzD s (.ob i) = (.lst xs, s.set i .gone) := by unfold frzD; simp only [h]
@[simp] theorem stO_ob (s : Sto) (i : Nat) (xs : List D) : stO s (.ob i) xs = s.set i (.lst xs) := id rfl
@[simp] theorem frz_lst (s : Sto) (xs : List D) : frzD s (.lst xs) = (.lst xs, s) := id rfl
@[simp] theorem frz_tup (s : Sto) (xs : List D) : frzD s (.tup xs) = (.tup xs, s) := id rfl
@[simp] theorem frz_int (s : Sto) (x : Int) : frzD s (.int x) = (.int x, s) := id rfl
@[simp] theorem frz_str (s : Sto) (x : Str) : frzD s (.str x) = (.str x, s) := id rfl
@[simp] theorem frz_bl (s : Sto) (x : Bool) : frzD s (.bl x) = (.bl x, s) := id rfl
@[simp] theorem frz_non (s : Sto) : frzD s .non = (.non, s) := id rfl
theorem get_set {s : Sto} {i : Nat} {o u : O} (h : s[i]? = some o) : (s.set i u)[i]? = some u := List.getElem?_set_self (List.getElem?_eq_some_iff.mp h).1
theorem set_same {s : Sto} {i : Nat} {o : O} (h : s[i]? = some o) : s.set i o = s := by
  apply List.ext_getElem?
  intro j
  by_cases z : i = j
  · subst z; rw [get_set h, h]
  · rw [List.getElem?_set_ne z]
@[simp] theorem get_last (s : Sto) (o : O) : (s ++ [o])[s.length]? = some o := by simp
@[simp] theorem v_add (i j : Int) : gAdd (.int i) (.int j) = some (.int (i + j)) := id rfl
@[simp] theorem v_addI (i j : Int) : gAddI (.int i) (.int j) = some (.int (i + j)) := id rfl
@[simp] theorem v_sub (i j : Int) : gSub (.int i) (.int j) = some (.int (i - j)) := id rfl
@[simp] theorem v_mul (i j : Int) : gMul (.int i) (.int j) = if IntMulOk i j then some (.int (i * j)) else none := id rfl
@[simp] theorem v_div (i j : Int) : gDiv (.int i) (.int j) = if divOk j then some (.int (i / j)) else none := id rfl
@[simp] theorem v_mod (i j : Int) : gMod (.int i) (.int j) = if 0 < j then some (.int (i % j)) else none := id rfl
@[simp] theorem v_pow (i j : Int) : gPow (.int i) (.int j) = if powOk i j then some (.int (i ^ j.toNat)) else none := id rfl
@[simp] theorem v_addL (xs ys : List D) : gAdd (.lst xs) (.lst ys) = if xs.length + ys.length ≤ sizeLine then some (.lst (xs ++ ys)) else none := id rfl
@[simp] theorem v_eqB (a b : Bool) : gEq (.bl a) (.bl b) = some (.bl (decide (a = b))) := id rfl
@[simp] theorem v_neB (a b : Bool) : gNe (.bl a) (.bl b) = some (.bl (!decide (a = b))) := id rfl
@[simp] theorem v_gListL (xs : List D) : gList [.lst xs] = some (.lst xs) := id rfl
@[simp] theorem v_gListT (xs : List D) : gList [.tup xs] = some (.lst xs) := id rfl
@[simp] theorem v_gListS (x : Str) : gList [.str x] = if x.length ≤ sizeLine then some (.lst (signs x)) else none := id rfl
@[simp] theorem v_gTupleL (xs : List D) : gTuple [.lst xs] = some (.tup xs) := id rfl
@[simp] theorem v_gTupleT (xs : List D) : gTuple [.tup xs] = some (.tup xs) := id rfl
@[simp] theorem v_gIntI (i : Int) : gInt [.int i] = some (.int i) := id rfl
@[simp] theorem v_gIntB (b : Bool) : gInt [.bl b] = some (.int (if b then 1 else 0)) := id rfl
@[simp] theorem v_gslL (xs : List D) (lo hi : Option Int) : gSl (.lst xs) lo hi = some (.lst (cutD xs lo hi)) := id rfl
@[simp] theorem isN_non : gIsN .non .non = some (.bl true) := id rfl
@[simp] theorem isN_str (x : Str) : gIsN (.str x) .non = some (.bl false) := id rfl
@[simp] theorem isN_tup (x : List D) : gIsN (.tup x) .non = some (.bl false) := id rfl
@[simp] theorem isN_lst (x : List D) : gIsN (.lst x) .non = some (.bl false) := id rfl
@[simp] theorem isN_int (x : Int) : gIsN (.int x) .non = some (.bl false) := id rfl
@[simp] theorem notN_non : gNotN .non .non = some (.bl false) := id rfl
@[simp] theorem notN_str (x : Str) : gNotN (.str x) .non = some (.bl true) := id rfl
@[simp] theorem notN_tup (x : List D) : gNotN (.tup x) .non = some (.bl true) := id rfl
/-- a part of any list -/
def cutL {α : Type} (xs : List α) (lo hi : Option Int) : List α := (xs.drop (HT.sIx xs.length 0 lo)).take (HT.sIx xs.length xs.length hi - HT.sIx xs.length 0 lo)
theorem cutD_map {α : Type} (f : α → D) (xs : List α) (lo hi : Option Int) : cutD (xs.map f) lo hi = (cutL xs lo hi).map f := by
  simp [cutD, cutL, List.map_take, List.map_drop]
@[simp] theorem cutD_ints (xs : List Int) (lo hi : Option Int) : cutD (xs.map D.int) lo hi = (cutL xs lo hi).map D.int := cutD_map _ _ _ _
theorem cutL_sub {α : Type} {xs : List α} {lo hi : Option Int} {x : α} (h : x ∈ cutL xs lo hi) : x ∈ xs := List.mem_of_mem_drop (List.mem_of_mem_take h)
theorem cutL_len {α : Type} (xs : List α) (lo hi : Option Int) : (cutL xs lo hi).length ≤ xs.length := by
  simp only [cutL, List.length_take, List.length_drop]
  omega
theorem cutL_nn {α : Type} (xs : List α) (a b : Nat) : cutL xs (some (a : Int)) (some (b : Int)) = (xs.drop a).take (b - a) := by
  simp only [cutL, HT.sIx_nat]
  by_cases h : a ≤ xs.length
  · rw [Nat.min_eq_left h]
    by_cases h2 : b ≤ xs.length
    · rw [Nat.min_eq_left h2]
    · rw [Nat.min_eq_right (by omega), List.take_of_length_le (by simp), List.take_of_length_le (by simp; omega)]
  · have e : min a xs.length = xs.length := by omega
    rw [e, List.drop_of_length_le (Nat.le_refl _), List.drop_of_length_le (by omega)]
    simp
@[simp] theorem v_lt (i j : Int) : gLt (.int i) (.int j) = some (.bl (decide (i < j))) := id rfl
@[simp] theorem v_le (i j : Int) : gLe (.int i) (.int j) = some (.bl (decide (i ≤ j))) := id rfl
@[simp] theorem v_gt (i j : Int) : gGt (.int i) (.int j) = some (.bl (decide (j < i))) := id rfl
@[simp] theorem v_ge (i j : Int) : gGe (.int i) (.int j) = some (.bl (decide (j ≤ i))) := id rfl
@[simp] theorem v_eqI (i j : Int) : gEq (.int i) (.int j) = some (.bl (decide (i = j))) := id rfl
@[simp] theorem v_neI (i j : Int) : gNe (.int i) (.int j) = some (.bl (!decide (i = j))) := id rfl
@[simp] theorem v_neg (i : Int) : gNeg (.int i) = some (.int (-i)) := id rfl
@[simp] theorem v_lenL (xs : List D) : gLen [.lst xs] = some (.int xs.length) := id rfl
@[simp] theorem v_lenT (xs : List D) : gLen [.tup xs] = some (.int xs.length) := id rfl
@[simp] theorem v_lenS (x : Str) : gLen [.str x] = if x.length ≤ sizeLine then some (.int x.length) else none := id rfl
@[simp] theorem v_min2 (i j : Int) : gMin2 [.int i, .int j] = some (.int (if j < i then j else i)) := id rfl
@[simp] theorem v_max2 (i j : Int) : gMax2 [.int i, .int j] = some (.int (if j > i then j else i)) := id rfl
@[simp] theorem v_ixL (xs : List D) (i : Int) : gIx (.lst xs) (.int i) = atI xs i := id rfl
@[simp] theorem v_ixT (xs : List D) (i : Int) : gIx (.tup xs) (.int i) = atI xs i := id rfl
@[simp] theorem v_revL (xs : List D) : gRev (.lst xs) = some (.lst xs.reverse) := id rfl
@[simp] theorem v_isi (n : String) (d : D) : gIsi n d = (tyN d).map fun t => .bl (isTy t n) := id rfl
@[simp] theorem v_isi2 (n m : String) (d : D) : gIsi2 n m d = (tyN d).map fun t => .bl (isTy t n || isTy t m) := id rfl
@[simp] theorem v_tyI (i : Int) : tyN (.int i) = some "int" := id rfl
@[simp] theorem v_tyB (i : Bool) : tyN (.bl i) = some "bool" := id rfl
@[simp] theorem v_tyS (i : Str) : tyN (.str i) = some "str" := id rfl
@[simp] theorem v_tyT (i : List D) : tyN (.tup i) = some "tuple" := id rfl
@[simp] theorem v_tyL (i : List D) : tyN (.lst i) = some "list" := id rfl
@[simp] theorem v_tyN : tyN .non = some "NoneType" := id rfl
@[simp] theorem v_isTy_NoneTypeNoneType : isTy "NoneType" "NoneType" = true := by decide
@[simp] theorem v_isTy_NoneTypebool : isTy "NoneType" "bool" = false := by decide
@[simp] theorem v_isTy_NoneTypeint : isTy "NoneType" "int" = false := by decide
@[simp] theorem v_isTy_NoneTypestr : isTy "NoneType" "str" = false := by decide
@[simp] theorem v_isTy_NoneTypetuple : isTy "NoneType" "tuple" = false := by decide
@[simp] theorem v_isTy_NoneTypelist : isTy "NoneType" "list" = false := by decide
@[simp] theorem v_isTy_boolNoneType : isTy "bool" "NoneType" = false := by decide
@[simp] theorem v_isTy_boolbool : isTy "bool" "bool" = true := by decide
@[simp] theorem v_isTy_boolint : isTy "bool" "int" = true := by decide
@[simp] theorem v_isTy_boolstr : isTy "bool" "str" = false := by decide
@[simp] theorem v_isTy_booltuple : isTy "bool" "tuple" = false := by decide
@[simp] theorem v_isTy_boollist : isTy "bool" "list" = false := by decide
@[simp] theorem v_isTy_intNoneType : isTy "int" "NoneType" = false := by decide
@[simp] theorem v_isTy_intbool : isTy "int" "bool" = false := by decide
@[simp] theorem v_isTy_intint : isTy "int" "int" = true := by decide
@[simp] theorem v_isTy_intstr : isTy "int" "str" = false := by decide
@[simp] theorem v_isTy_inttuple : isTy "int" "tuple" = false := by decide
@[simp] theorem v_isTy_intlist : isTy "int" "list" = false := by decide
@[simp] theorem v_isTy_strNoneType : isTy "str" "NoneType" = false := by decide
@[simp] theorem v_isTy_strbool : isTy "str" "bool" = false := by decide
@[simp] theorem v_isTy_strint : isTy "str" "int" = false := by decide
@[simp] theorem v_isTy_strstr : isTy "str" "str" = true := by decide
@[simp] theorem v_isTy_strtuple : isTy "str" "tuple" = false := by decide
@[simp] theorem v_isTy_strlist : isTy "str" "list" = false := by decide
@[simp] theorem v_isTy_tupleNoneType : isTy "tuple" "NoneType" = false := by decide
@[simp] theorem v_isTy_tuplebool : isTy "tuple" "bool" = false := by decide
@[simp] theorem v_isTy_tupleint : isTy "tuple" "int" = false := by decide
@[simp] theorem v_isTy_tuplestr : isTy "tuple" "str" = false := by decide
@[simp] theorem v_isTy_tupletuple : isTy "tuple" "tuple" = true := by decide
@[simp] theorem v_isTy_tuplelist : isTy "tuple" "list" = false := by decide
@[simp] theorem v_isTy_listNoneType : isTy "list" "NoneType" = false := by decide
@[simp] theorem v_isTy_listbool : isTy "list" "bool" = false := by decide
@[simp] theorem v_isTy_listint : isTy "list" "int" = false := by decide
@[simp] theorem v_isTy_liststr : isTy "list" "str" = false := by decide
@[simp] theorem v_isTy_listtuple : isTy "list" "tuple" = false := by decide
@[simp] theorem v_isTy_listlist : isTy "list" "list" = true := by decide
theorem small_line {n : Nat} (h : n ≤ 100000) : n ≤ sizeLine := Nat.le_trans h (by decide)
@[simp] theorem v_line0 : (0 : Nat) ≤ sizeLine := Nat.zero_le _
@[simp] theorem v_line1 : (1 : Nat) ≤ sizeLine := by decide
@[simp] theorem v_line2 : (2 : Nat) ≤ sizeLine := by decide
@[simp] theorem v_line3 : (3 : Nat) ≤ sizeLine := by decide
@[simp] theorem v_line4 : (4 : Nat) ≤ sizeLine := by decide
@[simp] theorem v_line5 : (5 : Nat) ≤ sizeLine := by decide
@[simp] theorem v_line6 : (6 : Nat) ≤ sizeLine := by decide
@[simp] theorem v_line7 : (7 : Nat) ≤ sizeLine := by decide
@[simp] theorem v_line8 : (8 : Nat) ≤ sizeLine := by decide
@[simp] theorem v_isB (a b : Bool) : gIsB (.bl a) (.bl b) = some (.bl (decide (a = b))) := id rfl
@[simp] theorem v_notB (a b : Bool) : gNotB (.bl a) (.bl b) = some (.bl (!decide (a = b))) := id rfl
@[simp] theorem v_eqS (a b : Str) : gEq (.str a) (.str b) = some (.bl (decide (a = b))) := id rfl
@[simp] theorem v_neS (a b : Str) : gNe (.str a) (.str b) = some (.bl (!decide (a = b))) := id rfl
@[simp] theorem v_addS (x y : Str) : gAdd (.str x) (.str y) = if x.length + y.length ≤ sizeLine then some (.str (x ++ y)) else none := id rfl
@[simp] theorem v_addT (xs ys : List D) : gAdd (.tup xs) (.tup ys) = if xs.length + ys.length ≤ sizeLine then some (.tup (xs ++ ys)) else none := id rfl
@[simp] theorem v_ixS (z : Str) (i : Int) : gIx (.str z) (.int i) = if z.length ≤ sizeLine then (atI z.cps.toList i).map fun c => .str ⟨#[c]⟩ else none := id rfl

end Gs

/-! G10: equality, items, lists of numbers. -/
namespace Gs
open PySem L2
abbrev iL (xs : List Int) : D := .lst (xs.map D.int)
theorem toPyL_ints : ∀ xs : List Int, toPyL (xs.map D.int) = some (xs.map PyData.int)
  | [] => by simp [toPyL]
  | x :: xs => by simp [toPyL, toPy, toPyL_ints xs]
theorem eqvAll_ints : ∀ xs ys : List Int, PyData.eqvAll (xs.map PyData.int) (ys.map PyData.int) = decide (xs = ys)
  | [], [] => by simp [PyData.eqvAll]
  | [], y :: ys => by simp [PyData.eqvAll]
  | x :: xs, [] => by simp [PyData.eqvAll]
  | x :: xs, y :: ys => by
    rw [List.map_cons, List.map_cons, PyData.eqvAll, eqvAll_ints xs ys, PyData.eqv]
    by_cases h : x = y <;> by_cases h2 : xs = ys <;> simp [h, h2]
theorem canLay_ints : ∀ xs : List Int, PyData.canLayAll0 (xs.map PyData.int) = true
  | [] => by simp [PyData.canLayAll0]
  | x :: xs => by simp [PyData.canLayAll0, PyData.canLay0, canLay_ints xs]
theorem depth_ints : ∀ xs : List Int, PyData.depthAll (xs.map PyData.int) = 0
  | [] => by simp [PyData.depthAll]
  | x :: xs => by simp [PyData.depthAll, PyData.depth, depth_ints xs]
theorem shaped_ints (xs : List Int) : SeqAt.shaped (.list (xs.map PyData.int)) = true := by
  simp [SeqAt.shaped, PyData.canLay0, PyData.depth, canLay_ints, depth_ints]
theorem eqO_L (xs ys : List Int) : eqO (.lst (xs.map D.int)) (.lst (ys.map D.int)) = some (decide (xs = ys)) := by
  have h : eqO (.lst (xs.map D.int)) (.lst (ys.map D.int)) = eqPy (.lst (xs.map D.int)) (.lst (ys.map D.int)) := by simp [eqO]
  rw [h]
  simp [eqPy, toPy, toPyL_ints, shaped_ints, PyData.eqv, eqvAll_ints]
@[simp] theorem v_eqL (xs ys : List Int) : gEq (.lst (xs.map D.int)) (.lst (ys.map D.int)) = some (.bl (decide (xs = ys))) := by simp [gEq, eqO_L]
@[simp] theorem v_neL (xs ys : List Int) : gNe (.lst (xs.map D.int)) (.lst (ys.map D.int)) = some (.bl (!decide (xs = ys))) := by simp [gNe, eqO_L]
@[simp] theorem v_eqL0 (xs : List Int) : gEq (.lst (xs.map D.int)) (.lst []) = some (.bl (decide (xs = []))) := v_eqL xs []
@[simp] theorem v_neL0 (xs : List Int) : gNe (.lst (xs.map D.int)) (.lst []) = some (.bl (!decide (xs = []))) := v_neL xs []
@[simp] theorem v_at0 (a : D) (l : List D) : atI (a :: l) 0 = some a := atI_ofNat (a :: l) (j := 0) (by simp)
@[simp] theorem v_at1 (a b : D) (l : List D) : atI (a :: b :: l) 1 = some b := atI_ofNat (a :: b :: l) (j := 1) (by simp)
@[simp] theorem v_at2 (a b c : D) (l : List D) : atI (a :: b :: c :: l) 2 = some c := atI_ofNat (a :: b :: c :: l) (j := 2) (by simp)
@[simp] theorem v_at3 (a b c d : D) (l : List D) : atI (a :: b :: c :: d :: l) 3 = some d := atI_ofNat (a :: b :: c :: d :: l) (j := 3) (by simp)
theorem eqO_T2 (a b c d : Int) : eqO (.tup [.int a, .int b]) (.tup [.int c, .int d]) = some (decide (a = c ∧ b = d)) := by
  have h : eqO (.tup [.int a, .int b]) (.tup [.int c, .int d]) = eqPy (.tup [.int a, .int b]) (.tup [.int c, .int d]) := by simp [eqO]
  rw [h]
  by_cases h1 : a = c <;> by_cases h2 : b = d <;> simp [eqPy, toPy, toPyL, SeqAt.shaped, PyData.canLay0, PyData.canLayAll0, PyData.depth, PyData.depthAll, PyData.eqv, PyData.eqvAll, h1, h2]
@[simp] theorem v_eqT2 (a b c d : Int) : gEq (.tup [.int a, .int b]) (.tup [.int c, .int d]) = some (.bl (decide (a = c ∧ b = d))) := by simp [gEq, eqO_T2]
@[simp] theorem v_neT2 (a b c d : Int) : gNe (.tup [.int a, .int b]) (.tup [.int c, .int d]) = some (.bl (!decide (a = c ∧ b = d))) := by simp [gNe, eqO_T2]
theorem cutL_lo {α : Type} (xs : List α) (a : Nat) : cutL xs (some (a : Int)) none = xs.drop a := by
  simp only [cutL, HT.sIx_nat, HT.sIx_none]
  by_cases h : a ≤ xs.length
  · rw [Nat.min_eq_left h, List.take_of_length_le (by simp)]
  · have e : min a xs.length = xs.length := by omega
    rw [e, List.drop_of_length_le (Nat.le_refl _), List.drop_of_length_le (by omega)]
    simp
theorem cutL_hi {α : Type} (xs : List α) (b : Nat) : cutL xs none (some (b : Int)) = xs.take b := by
  simp only [cutL, HT.sIx_nat, HT.sIx_none, List.drop_zero, Nat.sub_zero]
  by_cases h : b ≤ xs.length
  · rw [Nat.min_eq_left h]
  · rw [Nat.min_eq_right (by omega), List.take_of_length_le (by simp), List.take_of_length_le (by omega)]
/-! == of data -/
def eqk (k : Nat) (d : D) : Prop := ∃ p, toPy d = some p ∧ p.canLay0 = true ∧ p.depth ≤ k
theorem eqk_int (k : Nat) (i : Int) : eqk k (.int i) := ⟨.int i, by simp [toPy], by simp [PyData.canLay0], by simp [PyData.depth]⟩
theorem eqk_str (k : Nat) {z : Str} (h : PyData.canLay0 (.str z) = true) : eqk k (.str z) := ⟨.str z, by simp [toPy], h, by simp [PyData.depth]⟩
theorem eqk_up {k l : Nat} {d : D} (h : eqk k d) (hl : k ≤ l) : eqk l d := by
  obtain ⟨p, h1, h2, h3⟩ := h
  exact ⟨p, h1, h2, Nat.le_trans h3 hl⟩
theorem eqk_tup {k : Nat} {v u : D} (h : eqk k v) (h2 : eqk k u) : eqk (k + 1) (.tup [v, u]) := by
  obtain ⟨p, a1, a2, a3⟩ := h
  obtain ⟨q, b1, b2, b3⟩ := h2
  exact ⟨.tuple [p, q], by simp [toPy, toPyL, a1, b1], by simp [PyData.canLay0, PyData.canLayAll0, a2, b2], by simp [PyData.depth, PyData.depthAll]; omega⟩
theorem eqk_all {k : Nat} : ∀ {xs : List D}, (∀ x ∈ xs, eqk k x) → ∃ ps, toPyL xs = some ps ∧ PyData.canLayAll0 ps = true ∧ PyData.depthAll ps ≤ k
  | [], _ => ⟨[], by simp [toPyL], by simp [PyData.canLayAll0], by simp [PyData.depthAll]⟩
  | x :: xs, h => by
    obtain ⟨p, a1, a2, a3⟩ := h x (by simp)
    obtain ⟨ps, b1, b2, b3⟩ := eqk_all (xs := xs) fun y hy => h y (by simp [hy])
    exact ⟨p :: ps, by simp [toPyL, a1, b1], by simp [PyData.canLayAll0, a2, b2], by simp [PyData.depthAll]; omega⟩
theorem eqk_lst {k : Nat} {xs : List D} (h : ∀ x ∈ xs, eqk k x) : eqk (k + 1) (.lst xs) := by
  obtain ⟨ps, b1, b2, b3⟩ := eqk_all h
  exact ⟨.list ps, by simp [toPy, b1], by simpa [PyData.canLay0] using b2, by simp [PyData.depth]; omega⟩
theorem eqO_self {xs : List D} {k : Nat} (h : eqk k (.lst xs)) (hk : k ≤ 60) : eqO (.lst xs) (.lst xs) = some true := by
  obtain ⟨p, h1, h2, h3⟩ := h
  have e : eqO (.lst xs) (.lst xs) = eqPy (.lst xs) (.lst xs) := by simp [eqO]
  rw [e]
  unfold eqPy
  rw [h1]
  have hs : SeqAt.shaped p = true := by
    simp [SeqAt.shaped, h2]
    omega
  simp [hs, SeqAt.eqv_refl p h2]
theorem eqk_bl (k : Nat) (b : Bool) : eqk k (.bl b) := ⟨.bool b, by simp [toPy], rfl, by simp [PyData.depth]⟩
theorem eqk_tupL {k : Nat} {xs : List D} (h : ∀ x ∈ xs, eqk k x) : eqk (k + 1) (.tup xs) := by
  obtain ⟨ps, b1, b2, b3⟩ := eqk_all h
  exact ⟨.tuple ps, by simp [toPy, b1], by simpa [PyData.canLay0] using b2, by simp [PyData.depth]; omega⟩
theorem eqO_nil {k : Nat} {xs : List D} (h : eqk k (.lst xs)) (hk : k ≤ 60) : eqO (.lst xs) (.lst []) = some (decide (xs = [])) := by
  obtain ⟨p, h1, h2, h3⟩ := h
  have e : eqO (.lst xs) (.lst []) = eqPy (.lst xs) (.lst []) := by simp [eqO]
  rw [e]
  unfold eqPy
  rw [h1]
  have hs : SeqAt.shaped p = true := by
    simp [SeqAt.shaped, h2]
    omega
  have hn : toPy (.lst []) = some (.list []) := by simp [toPy, toPyL]
  have hs2 : SeqAt.shaped (.list []) = true := by simp [SeqAt.shaped, PyData.canLay0, PyData.canLayAll0, PyData.depth, PyData.depthAll]
  rw [hn]
  simp only [hs, hs2, Bool.and_self, if_true]
  simp only [toPy] at h1
  cases xs with
  | nil =>
    simp [toPyL] at h1
    subst h1
    simp [PyData.eqv, PyData.eqvAll]
  | cons x xs =>
    simp only [toPyL] at h1
    cases hx : toPy x with
    | none => rw [hx] at h1; simp at h1
    | some q =>
      cases hy : toPyL xs with
      | none => rw [hx, hy] at h1; simp at h1
      | some qs =>
        rw [hx, hy] at h1
        simp at h1
        subst h1
        simp [PyData.eqv, PyData.eqvAll]
theorem eq_nil {k : Nat} {xs : List D} (h : eqk k (.lst xs)) (hk : k ≤ 60) : gEq (.lst xs) (.lst []) = some (.bl (decide (xs = []))) := by simp [gEq, eqO_nil h hk]

@[simp] theorem eq_non_str (x : Str) : gEq .non (.str x) = some (.bl false) := by simp [gEq, eqO]
@[simp] theorem eq_str_non (x : Str) : gEq (.str x) .non = some (.bl false) := by simp [gEq, eqO]
@[simp] theorem eq_non_non : gEq .non .non = some (.bl true) := by simp [gEq, eqO]
@[simp] theorem v_eq00 : gEq (.lst []) (.lst []) = some (.bl true) := (v_eqL [] []).trans (by simp)
@[simp] theorem v_ne00 : gNe (.lst []) (.lst []) = some (.bl false) := (v_neL [] []).trans (by simp)
/-! what stands in the midst of a store -/
@[simp] theorem get_mid (s0 g : Sto) (o : O) : (s0 ++ o :: g)[s0.length]? = some o := by simp
@[simp] theorem set_mid (s0 g : Sto) (o u : O) : (s0 ++ o :: g).set s0.length u = s0 ++ u :: g := by simp
@[simp] theorem lsO_mid (s0 g : Sto) (xs : List D) : lsO (s0 ++ .lst xs :: g) (.ob s0.length) = some xs := lsO_ob (get_mid _ _ _)
@[simp] theorem rsv_mid (s0 g : Sto) (xs : List D) : rsv (s0 ++ .lst xs :: g) (.ob s0.length) = .lst xs := r_ob (get_mid _ _ _)
@[simp] theorem frz_mid (s0 g : Sto) (xs : List D) : frzD (s0 ++ .lst xs :: g) (.ob s0.length) = (.lst xs, s0 ++ .gone :: g) := by rw [frz_ob (get_mid _ _ _), set_mid]
theorem forL {p : Pt} {body : S} {xs : List Int} {δ : Sl} {s : Sto} (Inv : Nat → Sl → Sto → Prop) (h0 : Inv 0 δ s)
    (hs : ∀ i (h : i < xs.length) δ s, Inv i δ s → ∃ δ1, bindP p (.int xs[i]) δ = some δ1 ∧ ∃ δ2 s2, body δ1 s = .nx δ2 s2 ∧ Inv (i + 1) δ2 s2) : ∃ δ' s', forD p body (xs.map D.int) δ s = .nx δ' s' ∧ Inv xs.length δ' s' := by
  have z := forD_inv (p := p) (body := body) Inv (xs.map D.int) 0 δ s h0 fun i d δ s hd hi => by
    obtain ⟨h1, h2⟩ := List.getElem?_eq_some_iff.mp hd
    rw [List.length_map] at h1
    rw [List.getElem_map] at h2
    subst h2
    rw [Nat.zero_add] at hi ⊢
    exact hs i h1 δ s hi
  rw [Nat.zero_add, List.length_map] at z
  exact z
end Gs

/-! GX: an exception that was caught is kept, as data. -/
namespace L2
open PySem PySem.Spec PyProof.Rows
/-- a thing that stands in the heap, laid within this frame, is tracked from here on -/
theorem Inv.track {X : Cx} {pins : List (Addr × Obj)} {σ : St} {H : Hp} {s : Shared} {a : Addr} {oe : Obj} {vs : Array Value} {o : HO} (J : Inv X pins σ H s) (hg : s.heap.get? a = some oe) (hd : oe.data = .fields vs) (na : H a = none) (n0 : X.s_0.heap.get? a = none) (nL : a ≠ X.env.locals)
    (np : ∀ p ∈ X.pn ++ pins, p.1 ≠ a) (nw : ObjOk X.prog X.w (upd H a o) s.heap a o) : Inv X pins σ (upd H a o) s where
  ok := J.ok
  os := J.os
  bare := J.bare
  base := by
    have ne : ∀ {b : Addr} {u : Obj}, X.s_0.heap.get? b = some u → b ≠ a := fun q z => by rw [z, n0] at q; cases q
    exact ⟨J.base.keep, J.base.slot, fun b u q m x => by rw [upd_ne (ne q)]; exact J.base.free b u q m x, J.base.there,
      fun b xs q => by
        have z := J.base.tups b xs q
        rw [upd_ne (ne_of_none z na)]
        exact z,
      fun b u w q => by
        have z := J.base.frzs b u w q
        rw [upd_ne (ne_of_none z na)]
        exact z,
      fun b ps q => by
        obtain ⟨more, z⟩ := J.base.tbls b ps q
        exact ⟨more, by rw [upd_ne (ne_of_none z na)]; exact z⟩⟩
  loc := J.loc
  cell := J.cell
  free := by rw [upd_ne nL.symm]; exact J.free
  freeC := fun x c e => by
    have ne : c ≠ a := fun z => by
      obtain ⟨v, oc, hoc, hdc⟩ := J.cell x c e
      rw [z, hg] at hoc
      cases hoc
      rw [hd] at hdc
      cases hdc
    rw [upd_ne ne]
    exact J.freeC x c e
  pin := fun p hp => by
    obtain ⟨e1, e2, e3, e4, e5⟩ := J.pin p hp
    exact ⟨e1, by rw [upd_ne (np p hp)]; exact e2, e3, e4, e5⟩
  hok := HOk.laidN J.hok (fun _ _ q => q) na nw
  len := J.len
/-- an exception object of the class cls with the own dict d at a -/
def EvK (cls : Value) (d : Option Addr) (a : Addr) : HO := .ext fun h => ∃ (oe : Obj) (vs : Array Value), h.get? a = some oe ∧ Zc cls d oe ∧ oe.data = .fields vs
theorem evK_ok {P : Program} {w : World} {H : Hp} {h : Heap} {a : Addr} {cls : Value} {d : Option Addr} {oe : Obj} {vs : Array Value} (e : h.get? a = some oe) (z : Zc cls d oe) (q : oe.data = .fields vs) : ObjOk P w H h a (EvK cls d a) :=
  ⟨⟨oe, vs, e, z, q⟩, ⟨oe, e⟩, fun _ _ ⟨o, v, q1, r⟩ k => ⟨o, v, k o q1, r⟩⟩
/-- the ends of a suite, the exception at a tracked behind it -/
def kEnds (i : Nat) (D : Ends) (T : Hp → Hp) : Ends :=
  { nx := fun σ H => D.nx (σ.set i none) (T H), rt := fun v H => D.rt v (T H), bk := fun σ H => D.bk (σ.set i none) (T H), ct := fun σ H => D.ct (σ.set i none) (T H) }
def wKp (K : PySem.W.Frag) (c : Value) (i : Nat) (ts : Addr → Value → Option Addr → TS) (Wo : WX) (D : Ends) : WX := fun cls d σ H => ∃ b, PySem.W.exmOne K cls c = some b ∧
  (b = true → ∀ a, H a = none → ts a cls d (kEnds i D fun H' => upd H' a (EvK cls d a)) (σ.set i (some (.ref a))) H) ∧ (b = false → Wo cls d σ H)
section
variable {X : Cx} {x n : Str} {c : Value} {i : Nat} {body suite : List Stmt} {st₀ : Stmt} {np pos pos' : Pos} {tb : WX → TS} {ts : Addr → Value → Option Addr → TS} {Wo : WX}
theorem ps_try_keep (hs : X.stack = X.env :: X.outer) (hf : X.env.frame = some X.env.locals) (hN : X.N.Nodup) (hi : X.N[i]? = some n) (hln : X.env.kindOf n = some .local) (hx0 : X.ex = []) (hc : Names X x c) (tk : Takes X Wo)
    (hb : ∀ (W : WX) (pn : List (Addr × Obj)) (xe : Value → Shared → Prop), Takes (X.tr pn xe) W → PassesOwn (model X.prog X.w) X.A X.env xe → PSs (X.tr pn xe) body (tb W))
    (hsu : ∀ (a : Addr) (oe : Obj) (cls : Value) (d : Option Addr) (pn : List (Addr × Obj)), Zc cls d oe → (∃ vs, oe.data = .fields vs) → PSs (X.suite a ((a, oe) :: pn)) (st₀ :: suite) (ts a cls d)) :
    PS X (.Try body [.ExceptHandler (some (.Name x np)) (some n) (st₀ :: suite) pos'] [] [] pos) (fun D σ H => tb (wKp X.K c i ts Wo D) D σ H) := by
  refine ⟨fun pins s σ H D I0 hpre => ?_⟩
  have okX := I0.ok
  have frames : X.A.frames = some (X.env :: X.outer) := by rw [okX.frames, hs]
  refine wpAny_Try_except ?_
  have bodyRun := (hb (wKp X.K c i ts Wo D) (X.pn ++ pins) (fun e z1 => wpAny (model X.prog X.w) X.A (noteFrame e X.env) (fun _ z2 => wpAny (model X.prog X.w) X.A (setFlight e none)
      (fun _ z3 => wpAny (model X.prog X.w) X.A (handleBy e X.env [.ExceptHandler (some (.Name x np)) (some n) (st₀ :: suite) pos']) (SP X pins D) X.xe z3) X.xe z2) X.xe z1) (fun u z xx => ?_) PassesOwn.looking).run [] s σ H D (I0.toTry _) hpre
  · refine wpAny_mono bodyRun (fun fl z1 hsp => ?_) (fun _ _ he => he)
    cases fl with
    | next =>
      obtain ⟨σ1, H1, J1, q1⟩ := hsp
      exact wpAny_execs_nil ⟨σ1, H1, J1.ofTry okX, q1⟩
    | brk =>
      obtain ⟨σ1, H1, J1, q1⟩ := hsp
      exact ⟨σ1, H1, J1.ofTry okX, q1⟩
    | cont =>
      obtain ⟨σ1, H1, J1, q1⟩ := hsp
      exact ⟨σ1, H1, J1.ofTry okX, q1⟩
    | ret u =>
      obtain ⟨v1, σ1, H1, J1, r1, q1⟩ := hsp
      exact ⟨v1, σ1, H1, J1.ofTry okX, r1, q1⟩
  · -- what is caught
    obtain ⟨a, B, sI, pins', σc, Hc, cls, d, rfl, Jt, nb, up, sky, na, osE, ag, b, hb1, hyes, hno⟩ := xx
    have J : Inv X pins σc Hc sI := Jt.ofTry okX
    have skyE : Sky B (X.env :: X.outer) a (Zc cls d) X.env.locals z.heap := by rw [← hs]; exact sky
    have nB : B.get? a = none := by rcases skyE with q | q | q <;> exact q.2.1
    show wpAny (model X.prog X.w) X.A (noteFrame (.ref a) X.env) _ _ _
    refine Sky.land Zc.steady frames hf skyE fun hp3 fly3 up3 => ?_
    have K3 : Inv X pins σc Hc { z with heap := hp3 } := J.landed nb fly3.1 (up.trans up3) osE ag
    obtain ⟨oe3, vs3, g3, zc3, d3⟩ := fly3.there
    have notFrame : a ∉ frs (X.env :: X.outer) := fun hm => by
      obtain ⟨_, o', e', hnf⟩ := fly3.2.2.1.mem hm
      rw [g3] at e'
      cases e'
      exact hnf _ d3
    have nL : a ≠ X.env.locals := fun w => notFrame (List.mem_filterMap.mpr ⟨X.env, List.mem_cons_self, by rw [hf, w]⟩)
    have nF : a ∉ X.fs := fun hm => by
      obtain ⟨e, he, q⟩ := List.mem_filterMap.mp hm
      exact notFrame (List.mem_filterMap.mpr ⟨e, List.mem_cons_of_mem _ he, q⟩)
    -- the exception is new
    have nI : sI.heap.get? a = none := by
      cases w : sI.heap.get? a with
      | none => rfl
      | some ob =>
        have w2 := nb a ob w (by rw [hs]; exact notFrame)
        rw [nB] at w2
        cases w2
    have n0 : X.s_0.heap.get? a = none := by
      cases w : X.s_0.heap.get? a with
      | none => rfl
      | some ob =>
        obtain ⟨o', w2⟩ := J.base.there a ob w (by rw [hx0]; simp)
        rw [nI] at w2
        cases w2
    have npin : ∀ p ∈ X.pn ++ pins, p.1 ≠ a := fun p hp w => by
      have w2 := (J.pin p hp).1
      rw [w, nI] at w2
      cases w2
    refine wpAny_handleBy_cons (codeAny_handlers_test ?_) (by intro q; cases q)
    have LT : PySem.W.Looks (model X.prog X.w) hp3 (typeOf (.ref a)) cls := fun A Q E s k q => wpAny_typeOf_ref (k _ _ g3) (by rw [zc3.1]; exact q)
    have LM := PySem.W.exm_one (M := model X.prog X.w) (K3.kIn) LT hb1
    have S3 := K3.suite g3 d3 na nL nF
    have clsNamed : ∀ {Q : Value → Shared → Prop} {E : Value → Shared → Prop}, Q c { z with heap := hp3 } → wpAny (model X.prog X.w) (X.A.mark (some (.ref a))) (eval (.Name x np) X.env) Q E { z with heap := hp3 } := fun {Q E} q => by
      obtain ⟨hgl, hdbg, hm | ⟨hm, hv, hnn⟩⟩ := hc
      · exact ld_glob (X := X.suite a ((a, oe3) :: (X.pn ++ pins))) S3 hgl hm q hdbg
      · exact ld_blt (X := X.suite a ((a, oe3) :: (X.pn ++ pins))) S3 hgl hm hv q hnn hdbg
    refine clsNamed (LM.here ?_)
    cases b with
    | false =>
      show wpAny _ X.A (handleBy (.ref a) X.env []) _ _ _
      refine wpAny_handleBy_nil ?_
      obtain ⟨k1, k2, k3, oe, vs, T, oT, tsl, he, hz, hd, h1, hr⟩ := id fly3
      unfold PySem.passOn
      refine wpAny_bind (wpAny_field he hd h1 ?_)
      rw [if_neg (show ¬ ((Value.ref T == Value.none) = true) from by simp)]
      have fin : wpAny (model X.prog X.w) X.A (setFlight (.ref a) X.env.frame) (fun _ z4 => wpAny (model X.prog X.w) X.A (throw (.ref a) : Sem Flow) (SP X pins D) X.xe z4) X.xe { z with heap := hp3 } := by
        rw [hf]
        refine HandSPX.setFlight_upZ fly3 fun h4 hh4 up4 => wpAny_throw (tk _ _ ?_)
        exact ⟨a, B, sI, pins, σc, Hc, cls, d, rfl, J, nb, (up.trans up3).trans up4, .inr (.inr (by rw [hs]; exact hh4)), na, osE, ag, hno rfl⟩
      first
        | exact wpAny_bind (wpAny_pure (wpAny_bind fin))
        | exact wpAny_bind fin
    | true =>
      refine codeAny_handlers_suite_as ?_
      refine HandSPX.lands_againZ fly3 fun hp4 fly4 up4 => ?_
      have K4 : Inv X pins σc Hc { z with heap := hp4 } := J.landed nb fly4.1 ((up.trans up3).trans up4) osE ag
      obtain ⟨oe4, vs4, g4, zc4, d4⟩ := fly4.there
      have S4 := K4.suite g4 d4 na nL nF
      refine store_ok (X := X.suite a ((a, oe4) :: (X.pn ++ pins))) (v := .ref a) S4 hN hi (.inl hln) rfl (fun z5 S5 => ?_) (.inr hln)
      have run := (hsu a oe4 cls d (X.pn ++ pins) zc4 ⟨_, d4⟩).run [] z5 _ Hc _ S5 (hyes rfl a na)
      refine wpAny_mono run (fun fl z6 hsp => ?_) (fun _ _ w => False.elim w)
      have leave : ∀ {σ6 : St} {H6 : Hp} {Q : Shared → Prop}, Inv (X.suite a ((a, oe4) :: (X.pn ++ pins))) [] σ6 H6 z6 → (∀ z7, Inv X pins (σ6.set i none) (upd H6 a (EvK cls d a)) z7 → Q z7) →
          wpAny (model X.prog X.w) X.A (do bindName X.env n .none; unbindBehindTheSuite X.env n pos') (fun _ z7 => Q z7) X.xe z6 := fun {σ6 H6 Q} S6 hq => by
        obtain ⟨p1, p2, p3, p4, p5⟩ := S6.pin (a, oe4) (by simp)
        have J6 : Inv X pins σ6 H6 z6 := S6.unsuite okX
        have T6 := J6.track p1 d4 p2 n0 nL npin (evK_ok p1 zc4 d4)
        exact gone_ok T6 hN hi hln hq
      cases fl with
      | next =>
        obtain ⟨σ6, H6, S6, q6⟩ := hsp
        exact leave S6 fun z7 J7 => ⟨_, _, J7, q6⟩
      | brk =>
        obtain ⟨σ6, H6, S6, q6⟩ := hsp
        exact leave S6 fun z7 J7 => ⟨_, _, J7, q6⟩
      | cont =>
        obtain ⟨σ6, H6, S6, q6⟩ := hsp
        exact leave S6 fun z7 J7 => ⟨_, _, J7, q6⟩
      | ret u =>
        obtain ⟨v6, σ6, H6, S6, r6, q6⟩ := hsp
        exact leave S6 fun z7 J7 => ⟨_, _, _, J7, r6, q6⟩
end
end L2

/-! GY: try .. except C as e: x = e; isinstance of what may be an exception. -/
namespace Gs
open PySem L2
theorem RE.wish2 {K : PySem.W.Frag} {v0 : Vw} {ct : String → Addr} {W W' : WX} {σ : L2.St} {δ : Sl} {v : Vw} (r : RE K ⟨v0, ct, W⟩ σ δ v) : RE K ⟨v0, ct, W'⟩ σ δ v := ⟨r.le, r.sr, r.len, r.sl⟩
/-- which classes the clause takes: by pairs -/
def XT (K : PySem.W.Frag) (ct : String → Addr) (c : Addr) (t : String → Option Bool) : Prop := ∀ s b, t s = some b → PySem.W.exmOne K (.ref (ct s)) (.ref c) = some b
theorem xt_sub {K : PySem.W.Frag} {ct : String → Addr} {c : Addr} (hb : PySem.W.subIn K (.ref c) (.type "BaseException") = some true) (hd : PySem.W.hasDictIn K c = true) (ht : PySem.W.typeIn K (.ref c) = some (.type "type")) {s : String} {b : Bool} (h : PySem.W.subIn K (.ref (ct s)) (.ref c) = some b) :
    PySem.W.exmOne K (.ref (ct s)) (.ref c) = some b := PySem.W.exm_ref hb hd ht h
def sTryK (t : String → Option Bool) (i j : Nat) (fb : S) : S := fun δ s => match fb δ s with
  | .exc e δ' s' => if e.fs.isEmpty = true then (match t e.cls with
    | some true => .nx (((δ'.set i none).set j (some (.ev e.cls [] []))).set i none) s'
    | some false => .exc e δ' s'
    | none => .stk) else .stk
  | r => r
section
variable {X : Cx} {C : Cc}
theorem ss_try_keep {x n : Str} {c : Addr} {t : String → Option Bool} {i j : Nat} {body suite : List Stmt} {b₀ : Stmt} {np pos' pos : Pos} {fb : S} (hs : X.stack = X.env :: X.outer) (hf : X.env.frame = some X.env.locals) (hN : X.N.Nodup) (hi : X.N[i]? = some n) (hln : X.env.kindOf n = some .local) (hx0 : X.ex = [])
    (hc : Names X x (.ref c)) (tk : Takes X C.W) (ht : XT X.K C.ct c t)
    (hb : ∀ (W : WX) (pn : List (Addr × Obj)) (xe : Value → Shared → Prop), Takes (X.tr pn xe) W → PassesOwn (model X.prog X.w) X.A X.env xe → SSs (X.tr pn xe) { C with W := W } body fb)
    (hsu : ∀ (a : Addr) (oe : Obj) (pn : List (Addr × Obj)), PSs (X.suite a ((a, oe) :: pn)) (b₀ :: suite) (fun Dn σ H => ∃ v, σ[i]? = some (some v) ∧ Dn.nx (σ.set j (some v)) H)) :
    SS X C (.Try body [.ExceptHandler (some (.Name x np)) (some n) (b₀ :: suite) pos'] [] [] pos) (sTryK t i j fb) := by
  refine ⟨fun pins s σ H Dn I h => ?_⟩
  have hiN : i < X.N.length := (List.getElem?_eq_some_iff.mp hi).1
  refine (ps_try_keep (tb := fun W => liftS X.K { C with W := W } fb) (ts := fun a cls d => fun Dn σ H => (∃ σ0 : L2.St, σ = List.set σ0 i (some (.ref a))) ∧ Dn.nx (σ.set j (some (.ref a))) H)
    hs hf hN hi hln hx0 hc tk hb fun a oe cls d pn hz hfl => ⟨fun pins s σ H Dn I hh => by
      obtain ⟨⟨σ0, rfl⟩, h2⟩ := hh
      have hl : (List.set σ0 i (some (V.ref a))).length = X.N.length := I.len
      rw [List.length_set] at hl
      exact (hsu a oe pn).run pins s _ H Dn I ⟨.ref a, List.getElem?_set_self (by omega), h2⟩⟩).run pins s σ H Dn I ?_
  have hσ : σ.length = X.N.length := I.len
  obtain ⟨δ, v, re, eH, h⟩ := h
  refine ⟨δ, v, re.wish2, eH, ?_⟩
  unfold sTryK at h
  cases e : fb δ v.st with
  | nx δ' s' => rw [e] at h; exact fun σ' v' re l es => h σ' v' re.wish2 l es
  | bk δ' s' => rw [e] at h; exact fun σ' v' re l es => h σ' v' re.wish2 l es
  | ct δ' s' => rw [e] at h; exact fun σ' v' re l es => h σ' v' re.wish2 l es
  | rt d s' => rw [e] at h; exact h
  | stk => rw [e] at h; exact h.elim
  | exc ex δ' s' =>
    rw [e] at h
    simp only at h
    intro cls dd σ' v' re' l' es rx
    split at h
    · rename_i hfs
      have hfs' : ex.fs = [] := List.isEmpty_iff.mp hfs
      have hdd : dd = none := rx.2.elim (fun z => z.2) fun z => absurd hfs' z.1
      cases q : t ex.cls with
      | none => rw [q] at h; exact h.elim
      | some bb =>
        rw [q] at h
        refine ⟨bb, by rw [rx.1]; exact ht _ _ q, fun hb => ?_, fun hb => ?_⟩
        · subst hb
          intro a ha
          simp only at h
          subst hdd
          refine ⟨⟨σ', rfl⟩, ?_⟩
          obtain ⟨l2, s2⟩ := new_ok (o := EvO cls none a) re'.sr ha
          have rep : Rep X.K C.ct (v'.new a (EvO cls none a)).G v'.m (.ev ex.cls [] []) (.ref a) := .ev0 (by rw [← rx.1]; exact upd_same)
          exact h _ (v'.new a (EvO cls none a)) (((((re'.setU i (some (.ref a))).step l2 s2).setV j rep).setU i none)).wish2 (l'.trans l2) es
        · subst hb
          exact h cls dd σ' v' re'.wish2 l' es rx
    · exact h.elim
end
/-! isinstance -/
/-- what is known of a class that is asked for: of None, of the classes that are raised -/
structure EI (K : PySem.W.Frag) (ct : String → Addr) (tb : String → Option Bool) (cv : Value) : Prop where
  non : PySem.W.kitOne K (.type "NoneType") cv = some false
  ev : ∀ c b, tb c = some b → ExcC K (ct c) ∧ PySem.W.kitOne K (.ref (ct c)) cv = some b
def rIsEv (K : PySem.W.Frag) : List V → Hp → VK → Prop := fun xs H Q => ∃ (a D : Addr) (c : V) (cv : Value) (b : Bool), xs = [.ref a, c] ∧ ClsV c cv ∧ H a = some (EvO (.ref D) none a) ∧ ExcC K D ∧ PySem.W.kitOne K (.ref D) cv = some b ∧ Q (.bl b) H
section
variable {X : Cx} {C : Cc}
theorem call_isEv : CallR X (.builtin "isinstance") (rIsEv X.K) := by
  intro pins s σ H xs us Q I r h
  obtain ⟨a, D, c, cv, b, rfl, hcv, hH, EC, e, q⟩ := h
  cases r with
  | cons rx rr =>
    cases rr with
    | cons rt rr =>
      cases rr
      cases rx
      have ec := hcv.eq rt
      subst ec
      obtain ⟨⟨oe, vs, hget, hz, hv⟩, _⟩ := (show ObjOk X.prog X.w H s.heap a (EvO (.ref D) none a) from I.hok a _ hH)
      have J : PySem.W.InstAt s.heap a oe D none := by
        obtain ⟨oc, od, oda, osl⟩ := oe
        obtain ⟨z1, z2⟩ := hz
        dsimp only at z1 z2 hv
        subst z1 z2 hv
        exact ⟨hget, rfl, rfl, trivial⟩
      exact PySem.W.kia_one (PySem.W.handS_kitx_exc EC.hg EC.hk EC.hs EC.hd EC.ha EC.hn EC.ht EC.hm) I.kIn J e (fun z => nomatch z) fun tk => ⟨.bl b, H, I.kept (t' := tk) fun _ _ z => z, rfl, q⟩
theorem call_isU : CallR X (.builtin "isinstance") (fun xs H Q => rIsi X.K xs H Q ∨ rIsEv X.K xs H Q) := fun pins s σ H xs us Q I r h =>
  h.elim (call_isi pins s σ H xs us Q I r) (call_isEv pins s σ H xs us Q I r)
def gIsC (tb : String → Option Bool) : B1
  | .non => some (.bl false)
  | .ev c [] [] => (tb c).map .bl
  | _ => none
theorem se_isC {a : Expr} {fa : E} {pf pn pos : Pos} {nx : Str} {cV : V} {cv : Value} {tb : String → Option Bool} (ha : SE X C a fa) (hg : Gl X "isinstance") (hm : X.mg "isinstance" = none) (hc : PE X (.Name nx pn) (tC cV)) (hk : ClsV cV cv) (hE : EI X.K C.ct tb cv)
    (hvi : bootBuiltins "isinstance" = some (.builtin "isinstance") := by decide +kernel)
    (hs : starEach [a, .Name nx pn] X.env = (false, eval a X.env) :: starEach [.Name nx pn] X.env := by rfl) (hpl : (backTo pos (starEach [.Name nx pn] X.env)).any (·.1) = false := by rfl)
    (hs2 : starEach [.Name nx pn] X.env = (false, eval (.Name nx pn) X.env) :: starEach [] X.env := by rfl) :
    SE X C (.Call (.Name "isinstance" pf) [a, .Name nx pn] [] pos) (eUn (gIsC tb) fa) :=
  pe_weak (pe_callB call_isU hg hm hvi (pa_cons ha (pa_cons hc pa_nil hs2) hs) (by decide) (by decide) hs hpl) fun σ H Q h => by
    obtain ⟨δ, v8, re, eH, h1⟩ := lift_un h
    refine ⟨δ, v8, re, eH, on_mono h1 fun d x v1 l1 s1 r1 h2 => ?_⟩
    obtain ⟨v2, dx, d2, eH2, sr, e, r2, h2⟩ := h2
    rw [← eH2]
    cases r2 with
    | non =>
      simp only [gIsC, Option.some.injEq] at e
      subst e
      exact .inl ⟨.non, cV, .type "NoneType", cv, false, rfl, hk, .base .non, hE.non, h2 _ v2 .refl sr rfl (.bl _)⟩
    | @ev a0 c ks0 ds0 r3 =>
      cases r3 with
      | ev0 hG =>
        simp only [gIsC] at e
        cases q : tb c with
        | none => rw [q] at e; exact nomatch e
        | some b =>
          rw [q] at e
          simp only [Option.map_some, Option.some.injEq] at e
          subst e
          obtain ⟨h3, h4⟩ := hE.ev c b q
          exact .inr ⟨a0, C.ct c, cV, cv, b, rfl, hk, sr.sub _ _ hG, h3, h4, h2 _ v2 .refl sr rfl (.bl _)⟩
      | ev n hG hG2 hl hr =>
        cases ks0 with
        | nil => exact absurd rfl n
        | cons k ks => simp only [gIsC, reduceCtorEq] at e
    | _ => simp only [gIsC, reduceCtorEq] at e
end
@[simp] theorem v_sTryK (t : String → Option Bool) (i j : Nat) (fb : S) (δ : Sl) (s : Sto) : sTryK t i j fb δ s = (match fb δ s with
  | .exc e δ' s' => if e.fs.isEmpty = true then (match t e.cls with
    | some true => .nx (((δ'.set i none).set j (some (.ev e.cls [] []))).set i none) s'
    | some false => .exc e δ' s'
    | none => .stk) else .stk
  | r => r) := id rfl
@[simp] theorem v_isC_non (tb : String → Option Bool) : gIsC tb .non = some (.bl false) := id rfl
@[simp] theorem v_isC_ev (tb : String → Option Bool) (c : String) : gIsC tb (.ev c [] []) = (tb c).map .bl := id rfl
@[simp] theorem isN_ev (c : String) (ks : List Str) (ds : List D) : gIsN (.ev c ks ds) .non = some (.bl false) := id rfl
@[simp] theorem notN_ev (c : String) (ks : List Str) (ds : List D) : gNotN (.ev c ks ds) .non = some (.bl true) := id rfl
@[simp] theorem r_ev (s : Sto) (c : String) (ks : List Str) (ds : List D) : rsv s (.ev c ks ds) = .ev c ks ds := id rfl
end Gs

/-! GZ: a call that only looks at the lists of the store; clear; xs[::-1] as a new list. -/
namespace Gs
open PySem L2
def gones (n : Nat) : Sto := List.replicate n .gone
/-- the frozen look of a datum's top -/
def lokD (s : Sto) : D → D
  | .ob i => match s[i]? with
    | some (.lst xs) => .lst xs
    | _ => .ob i
  | d => d
def scal : D → Bool
  | .non => true
  | .bl _ => true
  | .int _ => true
  | .str _ => true
  | _ => false
/-- b is a list of the store's -/
def Vw.isL (v : Vw) (b : Addr) : Prop := ∃ (i : Nat) (xs : List D), v.st[i]? = some (.lst xs) ∧ v.m i = some b
open Classical in
noncomputable def Vw.lookG (v : Vw) : Hp := fun b => if v.isL b then v.H b else v.G b
open Classical in
noncomputable def lessG (v : Vw) (G : Hp) : Hp := fun b => if v.isL b then none else G b
section
variable {K : PySem.W.Frag} {ct : String → Addr} {v : Vw}
theorem SR.isL_at (s : SR K ct v) {b : Addr} (h : v.isL b) : v.G b = none ∧ ∃ vs, v.H b = some (.lst vs) := by
  obtain ⟨i, xs, e, em⟩ := h
  obtain ⟨a, em', g, vs, hh, _⟩ := s.obj i _ e rfl
  rw [em] at em'
  cases em'
  exact ⟨g, vs, hh⟩
theorem lookG_same (s : SR K ct v) : Same v.G v.lookG := fun b u q => by
  unfold Vw.lookG
  rw [if_neg fun z => by rw [(s.isL_at z).1] at q; cases q]
  exact q
theorem gones_get {n i : Nat} {o : O} (h : (gones n)[i]? = some o) : o = .gone := by
  unfold gones at h
  rw [List.getElem?_replicate] at h
  split at h
  · exact (Option.some.inj h).symm
  · cases h
theorem look_ok (s : SR K ct v) : SR K ct ⟨v.lookG, v.H, v.m, gones v.st.length⟩ where
  sub := fun b u q => by
    have q' : v.lookG b = some u := q
    unfold Vw.lookG at q'
    split at q'
    · exact q'
    · exact s.sub b u q'
  dom := fun i hi => s.dom i (by simpa [gones] using hi)
  obj := fun i o e l => by rw [gones_get e] at l; cases l
  inj := fun i j o u a e _ l _ _ _ => by rw [gones_get e] at l; cases l
  fk := fun i kvs e => by have z := gones_get e; cases z
theorem look_rep (s : SR K ct v) {d : D} {x : V} (r : Rep K ct v.G v.m d x) : Rep K ct v.lookG v.m (lokD v.st d) x := by
  unfold lokD
  split
  · rename_i i
    split
    · rename_i xs e
      cases r with
      | @ob _ _ _ a em =>
        obtain ⟨a', em', g, vs, hh, rr⟩ := s.obj i _ e rfl
        rw [em] at em'
        cases em'
        have : v.lookG a = some (.lst vs) := by
          unfold Vw.lookG
          rw [if_pos ⟨i, xs, e, em⟩]
          exact hh
        exact .lst (SqL.of this) (rr.mono (lookG_same s) .refl)
    · exact r.mono (lookG_same s) .refl
  · exact r.mono (lookG_same s) .refl
theorem look_repL (s : SR K ct v) : ∀ {ds : List D} {xs : List V}, RepL K ct v.G v.m ds xs → RepL K ct v.lookG v.m (ds.map (lokD v.st)) xs
  | _, _, .nil => .nil
  | _, _, .cons h r => .cons (look_rep s h) (look_repL s r)
/-- behind the look the lists are the store's again -/
theorem thaw_ok (s : SR K ct v) {v' : Vw} (l : Le ⟨v.lookG, v.H, v.m, gones v.st.length⟩ v') (s' : SR K ct v') {k : Nat} (e : v'.st = gones k) (hk : v.st.length ≤ k) :
    Le v ⟨lessG v v'.G, v'.H, v'.m, v.st ++ gones (k - v.st.length)⟩ ∧ SR K ct ⟨lessG v v'.G, v'.H, v'.m, v.st ++ gones (k - v.st.length)⟩ := by
  have none' : ∀ b, ¬ (Vw.mk v.lookG v.H v.m (gones v.st.length)).owns b := fun b ⟨i, o, a, eo, lv, _⟩ => by rw [gones_get eo] at lv; cases lv
  have hH : Same v.H v'.H := fun b u q => l.h b u q (none' b)
  have hG : Same v.G (lessG v v'.G) := fun b u q => by
    unfold lessG
    rw [if_neg fun z => by rw [(s.isL_at z).1] at q; cases q]
    exact l.g b u (lookG_same s b u q)
  have gN : ∀ {b : Addr} {u : HO}, v.G b = none → v.H b = some u → lessG v v'.G b = none := fun {b u} g h => by
    unfold lessG
    split
    · rfl
    · rename_i nl
      cases z : v'.G b with
      | none => rfl
      | some w =>
        rcases l.nw b (by rw [z]; exact fun y => nomatch y) with y | y | y
        · exfalso
          have y' : v.lookG b ≠ none := y
          unfold Vw.lookG at y'
          rw [if_neg nl] at y'
          exact y' g
        · have y' : v.H b = none := y
          rw [h] at y'
          cases y'
        · exact absurd y (none' b)
  have get : ∀ {i : Nat} {o : O}, (v.st ++ gones (k - v.st.length))[i]? = some o → o.live = true → v.st[i]? = some o := fun {i o} eo lv => by
    by_cases z : i < v.st.length
    · rwa [List.getElem?_append_left z] at eo
    · rw [List.getElem?_append_right (Nat.not_lt.mp z)] at eo
      rw [gones_get eo] at lv
      cases lv
  refine ⟨⟨hG, l.m, fun b u q _ => hH b u q, fun b q => ?_, fun b ⟨i, o, a, eo, lv, em, q⟩ => ?_, l.al⟩, fun b u q => ?_, fun i hi => ?_, fun i o eo lv => ?_, fun i j o u a e1 e2 l1 l2 m1 m2 => ?_, fun i kvs e9 => ?_⟩
  · have q' : lessG v v'.G b ≠ none := q
    unfold lessG at q'
    split at q'
    · exact absurd rfl q'
    · rename_i nl
      rcases l.nw b q' with y | y | y
      · have y' : v.lookG b ≠ none := y
        unfold Vw.lookG at y'
        rw [if_neg nl] at y'
        exact .inl y'
      · exact .inr (.inl y)
      · exact absurd y (none' b)
  · have eo' := get eo lv
    obtain ⟨a0, em0, g0, r0⟩ := s.obj i o eo' lv
    obtain ⟨_, w, hw, _⟩ := s.obj_ne eo' lv em0
    have em' : v'.m i = some a := em
    rw [l.m i a0 em0] at em'
    cases em'
    refine .inl ⟨i, o, a, eo', lv, em0, q.imp id fun ⟨C, fs, z⟩ => ⟨C, fs, ?_⟩⟩
    have z' : v'.H a = some (.ins C b fs) := z
    rw [hH _ _ hw] at z'
    rw [hw]
    exact z'
  · have q' : lessG v v'.G b = some u := q
    unfold lessG at q'
    split at q'
    · cases q'
    · exact s'.sub b u q'
  · have hi' : v.st.length + (k - v.st.length) ≤ i := by simpa [gones] using hi
    exact s'.dom i (by rw [e]; simp [gones]; omega)
  · have eo' := get eo lv
    obtain ⟨a0, em0, g0, r0⟩ := s.obj i o eo' lv
    obtain ⟨_, w, hw, _⟩ := s.obj_ne eo' lv em0
    exact ⟨a0, l.m i a0 em0, gN g0 hw, r0.mono' (v := v) hG l.m ((hH _ _ hw).trans hw.symm) fun C dx fs _ q1 q2 => ⟨(hH _ _ q1).trans q1.symm, gN q2 q1⟩⟩
  · have e1' := get e1 l1
    have e2' := get e2 l2
    obtain ⟨a1, em1, _⟩ := s.obj i o e1' l1
    obtain ⟨a2, em2, _⟩ := s.obj j u e2' l2
    have m1' : v'.m i = some a := m1
    have m2' : v'.m j = some a := m2
    rw [l.m i a1 em1] at m1'
    rw [l.m j a2 em2] at m2'
    cases m1'
    cases m2'
    exact s.inj i j o u a e1' e2' l1 l2 em1 em2
  · have e9' : (v.st ++ gones (k - v.st.length))[i]? = some (.fK kvs) := e9
    by_cases z : i < v.st.length
    · rw [List.getElem?_append_left z] at e9'
      exact FkR.mono (v := v) (v' := ⟨lessG v v'.G, v'.H, v'.m, v.st ++ gones (k - v.st.length)⟩) hG l.m (s.fk i kvs e9')
    · rw [List.getElem?_append_right (Nat.not_lt.mp z)] at e9'
      have z2 := gones_get e9'
      cases z2
end
open Classical in
noncomputable def thawR (s : Sto) : R D → R D
  | .ok d s2 => if scal d = true ∧ s.length ≤ s2.length ∧ s2 = gones s2.length then .ok d (s ++ gones (s2.length - s.length)) else .stk
  | _ => .stk
/-- a call that looks at the lists of the store, and tells a number, a truth, a text or None -/
noncomputable def eCallB (F : List D → Sto → R D) (a : As) : E := fun δ s => (a δ s).bind fun ds s1 => thawR s1 (F (ds.map (lokD s1)) (gones s1.length))
section
variable {X : Cx} {C : Cc} {pos p : Pos} {x : Str} {e : Expr} {es : List Expr} {fa : As} {k n : Nat} {f : Addr} {fd : FuncData} {ps : List Str} {F : List D → Sto → R D}
theorem se_callBr (hF : FnOk X.prog X.w X.K X.mg X.base (L2.CX X.prog X.w) k f fd ps (spG X.K C.ct n F)) (hr : Room k X.A) (tk : Takes X C.W) (hg : Gl X x) (hm : X.mg x = some (.ref f)) (hk : PySem.W.keepIn X.K (.ref f) = true) (hb : Binds X.K fd ps [])
    (ha : SA X C (e :: es) fa) (hl : LenA fa n) (hdb : (x == ("__debug__" : Str)) = false := by decide) (he : starEach (e :: es) X.env = (false, eval e X.env) :: starEach es X.env := by rfl) (hpl : (backTo pos (starEach es X.env)).any (·.1) = false := by rfl) :
    SE X C (.Call (.Name x p) (e :: es) [] pos) (eCallB F fa) :=
  pe_weak (pe_callS hF hr hg hm hk hb (fun σ => passAt tk σ) ha hdb he hpl) fun σ H Q ⟨δ, v, re, eH, h⟩ => ⟨δ, v, re, eH, on_mono (on_eq (on_bind h)) fun ds vs v1 l1 s1 r1 h1 => by
    obtain ⟨h1, s, q⟩ := h1
    refine ⟨⟨v1.lookG, v1.H, v1.m, gones v1.st.length⟩, ds.map (lokD v1.st), rfl, look_ok s1, by rw [List.length_map]; exact hl _ _ _ _ q, look_repL s1 r1, ?_⟩
    show match F (ds.map (lokD v1.st)) (gones v1.st.length) with
      | .ok d s => _
      | .exc e s => _
      | .stk => _
    unfold thawR at h1
    cases z : F (ds.map (lokD v1.st)) (gones v1.st.length) with
    | stk => rw [z] at h1; exact h1.elim
    | exc e2 s2 => rw [z] at h1; exact h1.elim
    | ok d s2 =>
      rw [z] at h1
      simp only at h1
      split at h1
      · rename_i hz
        obtain ⟨h3, h4, h5⟩ := hz
        intro x2 v' l' s' es r'
        obtain ⟨l2, s3⟩ := thaw_ok (k := s2.length) s1 l' s' (by rw [es]; exact h5) h4
        have rep : ∀ G m, Rep X.K C.ct G m d x2 := by
          cases r' <;> first
            | exact fun G m => .non
            | exact fun G m => .bl _
            | exact fun G m => .int _
            | exact fun G m => .str _
            | (simp only [scal, Bool.false_eq_true] at h3)
        exact h1 x2 ⟨lessG v1 v'.G, v'.H, v'.m, v1.st ++ gones (s2.length - v1.st.length)⟩ l2 s3 rfl (rep _ _)
      · exact h1.elim⟩
/-- o.clear() -/
def eClr (o : E) : E := fun δ s => (o δ s).bind fun x s1 => if (lsO s1 x).isSome = true then .ok .non (stO s1 x []) else .stk
theorem se_clr {o : Expr} {fo : E} {p2 p3 : Pos} (ho : SE X C o fo) (hbase : attributeBase o "clear" X.env (eval o X.env) = eval o X.env := by rfl) (hline : (p2.endLine == p3.line) = true := by rfl) :
    SE X C (.Call (.Attribute o "clear" p2) [] [] p3) (eClr fo) :=
  pe_weak (pe_bm0 PySem.F.plainAttrs_list PySem.F.slot_list_clear PySem.F.type_list_clear mt_clear ho hbase hline) fun σ H Q ⟨δ, v, re, eH, h⟩ => by
    refine ⟨δ, v, re, eH, on_mono (on_bind h) fun d x v1 l1 s1 r1 h1 => ?_⟩
    split at h1
    · rename_i hs
      obtain ⟨xs0, e0⟩ := isSome_of hs
      obtain ⟨i, p, vs0, rfl, rfl, em, q0, hh0, _⟩ := lsO_at s1 r1 e0
      obtain ⟨l3, s3⟩ := stO_ok s1 em q0 (ys := []) (us := []) .nil
      exact ⟨.inl ⟨rfl, vs0, SqL.of hh0⟩, p, vs0, rfl, rfl, hh0, h1 .non (v1.put i p (.lst []) (.lst [])) l3 s3 rfl .non⟩
    · exact h1.elim
/-- xs[::-1], a new list -/
def fRev (f : E) : Fr := fun δ s => (f δ s).bind fun d s1 => match rsv s1 d with
  | .lst xs => .ok xs.reverse s1
  | _ => .stk
theorem sf_rev {a : Expr} {fa : E} {k : Nat} {p1 p3 p4 : Pos} (ha : SE X C a fa) : SF X C (.Subscript a (.Slice none none (some (.UnaryOp .USub (.Constant (.int 1) k p1) p3)) p4) pos) (fRev fa) :=
  pe_weak (pe_revL ha) fun σ H Q ⟨δ, v, re, eH, h⟩ =>
  ⟨δ, v, re, eH, on_mono (onF_bind h) fun d x v1 l1 s1 r1 h1 => by
    have t := r1.top s1
    cases z : rsv v1.st d with
    | lst xs =>
      rw [z] at h1 t
      cases t with
      | @lst a vs _ p q =>
        refine ⟨a, vs, rfl, p, fun c hc => ?_⟩
        obtain ⟨l2, s2, no⟩ := newH (u := .lst vs.reverse) s1 hc
        exact h1 c vs.reverse ⟨v1.G, upd v1.H c (.lst vs.reverse), v1.m, v1.st⟩ l2 s2 rfl hc (s1.free hc) upd_same no q.reverse
    | _ => rw [z] at h1; exact h1.elim⟩
end
@[simp] theorem v_eCallB (F : List D → Sto → R D) (a : As) (δ : Sl) (s : Sto) : eCallB F a δ s = (a δ s).bind fun ds s1 => thawR s1 (F (ds.map (lokD s1)) (gones s1.length)) := id rfl
@[simp] theorem v_eClr (o : E) (δ : Sl) (s : Sto) : eClr o δ s = (o δ s).bind fun x s1 => if (lsO s1 x).isSome = true then .ok .non (stO s1 x []) else .stk := id rfl
@[simp] theorem v_fRev (f : E) (δ : Sl) (s : Sto) : fRev f δ s = (f δ s).bind fun d s1 => match rsv s1 d with
  | .lst xs => .ok xs.reverse s1
  | _ => .stk := id rfl
theorem thaw_val {s : Sto} {d : D} (h : scal d = true) : thawR s (.ok d (gones s.length)) = .ok d s := by
  unfold thawR
  have e : (gones s.length).length = s.length := by simp [gones]
  simp only [e, h, Nat.le_refl, and_self, if_true, Nat.sub_self]
  simp [gones]
theorem lok_ob {s : Sto} {i : Nat} {xs : List D} (h : s[i]? = some (.lst xs)) : lokD s (.ob i) = .lst xs := by unfold lokD; simp only [h]
@[simp] theorem lok_int (s : Sto) (i : Int) : lokD s (.int i) = .int i := id rfl
@[simp] theorem lok_str (s : Sto) (i : Str) : lokD s (.str i) = .str i := id rfl
@[simp] theorem lok_lst (s : Sto) (i : List D) : lokD s (.lst i) = .lst i := id rfl
@[simp] theorem lok_tup (s : Sto) (i : List D) : lokD s (.tup i) = .tup i := id rfl
end Gs

/-! GCs: classes: instances of the store, their attributes, their methods. -/
namespace L2
open PySem PySem.Spec PyProof.Rows
/-- the method m of the class at C keeps sp -/
structure MtOk (P : Program) (w : World) (K : PySem.W.Frag) (mg : Str → Option Value) (base : Heap) (CX : CXT) (k : Nat) (m : Str) (C : Addr) (sp : Sp) : Prop where
  cls : Cls K C
  ex : ∃ f fd ps, Meth K C m f ∧ FnOk P w K mg base CX k f fd ps sp ∧ Binds K fd ps []
theorem MtOk.mono {P : Program} {w : World} {K : PySem.W.Frag} {mg : Str → Option Value} {base : Heap} {CX : CXT} {j k : Nat} {m : Str} {C : Addr} {sp : Sp} (o : MtOk P w K mg base CX j m C sp) (h : j ≤ k) : MtOk P w K mg base CX k m C sp :=
  ⟨o.cls, let ⟨f, fd, ps, a, b, c⟩ := o.ex; ⟨f, fd, ps, a, b.mono h, c⟩⟩
/-- a def of the class at C, read off the class -/
structure CfOk (K : PySem.W.Frag) (C f : Addr) (m : Str) : Prop where
  ga : PySem.W.specialIn K (.ref C) "__getattribute__" = some (some (.builtin "type.__getattribute__"))
  rd : PySem.W.readsIn K C (.type "type") = true
  at_ : PySem.W.findCls K (.ref C) (.type "type") m = some (.val (.ref f))
  kp : PySem.W.keepIn K (.ref f) = true
def tMethV (S : Addr → Sp → Prop) (m : Str) (E : St → XK) (ta : TE) (t : TA) : TE := fun σ H Q => ta σ H fun x H1 => ∃ a C dx fs sp, x = .ref a ∧ H1 a = some (.ins C dx fs) ∧ fs.lookup m = none ∧ S C sp ∧ t σ H1 fun vs H2 => sp (x :: vs) H2 Q (E σ)
def tMakeS (C : Addr) (sp : Sp) (E : St → XK) (t : TA) : TE := fun σ H Q => t σ H fun vs H1 => ∀ x dx, H1 x = none → H1 dx = none → dx ≠ x → sp (.ref x :: vs) (upd (upd H1 dx (.own x)) x (.ins C dx [])) (fun v H2 => v = .non ∧ Q (.ref x) H2) (E σ)
section
variable {X : Cx} {CX : CXT} {k : Nat} {E : St → XK} {m x : Str} {pos apos p1 p2 : Pos} {e o : Expr} {es : List Expr} {ta : TE} {t : TA} {S : Addr → Sp → Prop} {C f : Addr} {fd : FuncData} {ps : List Str} {sp : Sp} {pl : Sem Bool}
/-- o.m(e, ..), the method found by the instance's class -/
theorem pe_methV (hS : ∀ C sp, S C sp → MtOk X.prog X.w X.K X.mg X.base CX k m C sp) (hr : Room k X.A) (hx : ∀ σ, PassesAt CX X σ (E σ)) (he : PE X o ta) (ha : PA X (e :: es) t)
    (ht : eval (.Call (.Attribute o m apos) (e :: es) [] pos) X.env = (do let ov ← eval o X.env; standAt apos.atName; let (f, first) ← holding [ov] (getMethod ov m pl); callWith pos f first (backTo pos (starEach (e :: es) X.env)) (backToKw pos (keywordEach [] X.env))) := by rfl)
    (hst : starEach (e :: es) X.env = (false, eval e X.env) :: starEach es X.env := by rfl) (hpl : (backTo pos (starEach es X.env)).any (·.1) = false := by rfl) :
    PE X (.Call (.Attribute o m apos) (e :: es) [] pos) (tMethV S m E ta t) :=
  ⟨fun pins s σ H Q I h => PySem.W.methodCall_KW (pl := pl) (thn (he.run pins s σ H _ I h) fun u s1 ⟨x, H1, I1, rx, a, C, dx, fs, sp, ex, ea, l, hs, q⟩ => by
    subst ex
    obtain rfl : u = Value.ref a := rx
    obtain ⟨cl, f, fd, ps, hm, F, hb⟩ := hS C sp hs
    exact getmeth_ok I1 ea cl hm l (PySem.W.callWith_K (first := [.ref a]) (h₀ := X.base) I.ok.mod.kin hm.kp (thn (ha.run pos pins s1 σ H1 _ I1 q) fun us s2 ⟨vs, H2, I2, r, q2⟩ => ⟨I2.kIn, run_fnS (us := .ref a :: us) (vs := .ref a :: vs) F hr hb (hx σ) I2 (.cons rfl r) q2⟩) hst hpl)) ht⟩
theorem pe_methV0 (hS : ∀ C sp, S C sp → MtOk X.prog X.w X.K X.mg X.base CX k m C sp) (hr : Room k X.A) (hx : ∀ σ, PassesAt CX X σ (E σ)) (he : PE X o ta)
    (ht : eval (.Call (.Attribute o m apos) [] [] pos) X.env = (do let ov ← eval o X.env; standAt apos.atName; let (f, first) ← holding [ov] (getMethod ov m pl); callWith pos f first (backTo pos (starEach [] X.env)) (backToKw pos (keywordEach [] X.env))) := by rfl) :
    PE X (.Call (.Attribute o m apos) [] [] pos) (tMethV S m E ta tNil) :=
  ⟨fun pins s σ H Q I h => PySem.W.methodCall_KW (pl := pl) (thn (he.run pins s σ H _ I h) fun u s1 ⟨x, H1, I1, rx, a, C, dx, fs, sp, ex, ea, l, hs, q⟩ => by
    subst ex
    obtain rfl : u = Value.ref a := rx
    obtain ⟨cl, f, fd, ps, hm, F, hb⟩ := hS C sp hs
    exact getmeth_ok I1 ea cl hm l (PySem.W.callWith_K0 (first := [.ref a]) I1.kIn hm.kp (run_fnS (us := [.ref a]) (vs := [.ref a]) F hr hb (hx σ) I1 (.cons rfl .nil) q))) ht⟩
/-- C.m(e, ..) -/
theorem pe_cfun (c : CfOk X.K C f m) (hg : Gl X x) (hm : X.mg x = some (.ref C)) (F : FnOk X.prog X.w X.K X.mg X.base CX k f fd ps sp) (hr : Room k X.A) (hb : Binds X.K fd ps []) (hx : ∀ σ, PassesAt CX X σ (E σ)) (ha : PA X (e :: es) t)
    (ht : eval (.Call (.Attribute (.Name x p1) m p2) (e :: es) [] pos) X.env = (do let ov ← eval (.Name x p1) X.env; standAt p2.atName; let (f, first) ← holding [ov] (getMethod ov m pl); callWith pos f first (backTo pos (starEach (e :: es) X.env)) (backToKw pos (keywordEach [] X.env))) := by rfl)
    (hdb : (x == ("__debug__" : Str)) = false := by decide) (hst : starEach (e :: es) X.env = (false, eval e X.env) :: starEach es X.env := by rfl) (hpl : (backTo pos (starEach es X.env)).any (·.1) = false := by rfl) :
    PE X (.Call (.Attribute (.Name x p1) m p2) (e :: es) [] pos) (tCallS sp E t) :=
  ⟨fun pins s σ H Q I h => PySem.W.methodCall_KW (pl := pl) (ld_glob I hg hm (PySem.W.method_cls I.kIn c.ga (PySem.W.cls_value I.kIn c.rd c.at_ rfl
    (PySem.W.callWith_K (h₀ := X.base) I.ok.mod.kin c.kp (thn (ha.run pos pins _ σ H _ (I.tok _) h) fun us s1 ⟨vs, H1, I1, r, q⟩ => ⟨I1.kIn, run_fnS F hr hb (hx σ) I1 r q⟩) hst hpl))) hdb) ht⟩
theorem run_makeS {pins : List (Addr × Obj)} {σ : St} {H : Hp} {s : Shared} {Q : VK} {us : List Value} {vs : List V} (M : Mk X.K C f) (F : FnOk X.prog X.w X.K X.mg X.base CX k f fd ps sp) (hr : Room (k + 1) X.A) (hb : Binds X.K fd ps []) (hx : PassesAt CX X σ (E σ)) (I : Inv X pins σ H s) (r : Vals vs us)
    (h : ∀ x dx, H x = none → H dx = none → dx ≠ x → sp (.ref x :: vs) (upd (upd H dx (.own x)) x (.ins C dx [])) (fun v H2 => v = .non ∧ Q (.ref x) H2) (E σ)) : wpAny (model X.prog X.w) X.A (call (.ref C) us) (EP X pins σ Q) X.xe s := by
  have hq := h (s.heap.objs.size + 1) s.heap.objs.size (I.hok.fresh (Nat.le_succ _)) (I.hok.fresh (Nat.le_refl _)) (Nat.ne_of_lt (Nat.lt_succ_self _))
  have J := Inv.made (C := C) I
  have rr : Vals (V.ref (s.heap.objs.size + 1) :: vs) (Value.ref (s.heap.objs.size + 1) :: us) := .cons rfl r
  have hl : (Value.ref (s.heap.objs.size + 1) :: us).length = ps.length := by rw [← rr.length]; exact F.len _ _ _ _ hq
  have b := hb _ (Value.ref (s.heap.objs.size + 1) :: us) J.kIn (by rw [List.append_nil]; exact hl)
  rw [List.append_nil] at b
  have run := F.run _ X.stack _ _ ⟨Value.ref (s.heap.objs.size + 1) :: us, []⟩ _ _ _ (E σ) (hr.make C us []) (J.env0.make C us []) b rr hq
  refine wpAny_call (make_map (f := f) I.kIn M.makes M.init (beq_iff_eq.mp M.fn) (codeAny_mono run fun r s' hz => ?_))
  cases r with
  | error e => exact hx pins _ _ e s' J hz
  | ok fl =>
    cases fl with
    | ret u =>
      obtain ⟨v, H3, J3, rv, ev, q3⟩ := J.after hz
      subst ev
      exact ⟨rv, V.ref (s.heap.objs.size + 1), H3, J3, rfl, q3⟩
    | next => exact hz.elim
    | brk => exact hz.elim
    | cont => exact hz.elim
/-- C(e, ..) -/
theorem pe_makeS (M : Mk X.K C f) (F : FnOk X.prog X.w X.K X.mg X.base CX k f fd ps sp) (hr : Room (k + 1) X.A) (hg : Gl X x) (hm : X.mg x = some (.ref C)) (hb : Binds X.K fd ps []) (hx : ∀ σ, PassesAt CX X σ (E σ)) (ha : PA X (e :: es) t)
    (hdb : (x == ("__debug__" : Str)) = false := by decide) (hst : starEach (e :: es) X.env = (false, eval e X.env) :: starEach es X.env := by rfl) (hpl : (backTo pos (starEach es X.env)).any (·.1) = false := by rfl) :
    PE X (.Call (.Name x p1) (e :: es) [] pos) (tMakeS C sp E t) :=
  ⟨fun pins s σ H Q I h => wpAny_Call_Name_kw (ld_glob I hg hm (PySem.W.callWith_K (h₀ := X.base) I.ok.mod.kin M.kp (thn (ha.run pos pins s σ H _ I h) fun us s1 ⟨vs, H1, I1, r, q⟩ => ⟨I1.kIn, run_makeS M F hr hb (hx σ) I1 r q⟩) hst hpl) hdb)⟩
end
/-- what an expression tells is locked from here on -/
def tLk (t : TE) : TE := fun σ H Q => t σ H fun x H1 => (∃ d kvs, x = .ref d ∧ H1 d = some (.dK kvs) ∧ ∀ ob, Q x (upd H1 d (.frz ob (.dK kvs)))) ∨ Q x H1
theorem pe_lk {X : Cx} {e : Expr} {t : TE} (h : PE X e t) : PE X e (tLk t) := ⟨fun pins s σ H Q I q => thn (h.run pins s σ H _ I q) fun u s1 ⟨x, H1, I1, r, z⟩ => by
  rcases z with ⟨d, kvs, ex, hd, z⟩ | z
  · obtain ⟨ob, I2⟩ := I1.lock hd True.intro
    exact ⟨x, _, I2, r, z ob⟩
  · exact ⟨x, H1, I1, r, z⟩⟩
end L2

/-! GCd: instances and dicts of the store, over data. -/
namespace Gs
open PySem L2
/-! ### instances -/
def inO (s : Sto) : D → Option (String × List (Str × D))
  | .ob i => match s[i]? with
    | some (.ins c fs) => some (c, fs)
    | _ => none
  | _ => none
def putD (f : Str) (v : D) : List (Str × D) → List (Str × D)
  | [] => [(f, v)]
  | (g, x) :: r => if g = f then (g, v) :: r else (g, x) :: putD f v r
theorem RepP.putF {K : PySem.W.Frag} {ct : String → Addr} {G : Hp} {m : Nat → Option Addr} {f : Str} {d : D} {v : V} (h : Rep K ct G m d v) {ds : List (Str × D)} {vs : List (Str × V)} (r : RepP K ct G m ds vs) : RepP K ct G m (putD f d ds) (L2.putF f v vs) := by
  induction r with
  | nil => exact .cons h .nil
  | @cons x d0 v0 ds vs h0 r ih =>
    simp only [putD, L2.putF]
    by_cases e : x = f
    · rw [if_pos e, if_pos e]
      exact .cons h r
    · rw [if_neg e, if_neg e]
      exact .cons h0 ih
theorem inO_at {K : PySem.W.Frag} {ct : String → Addr} {v : Vw} {d : D} {x : V} {c : String} {fs : List (Str × D)} (sr : SR K ct v) (r : Rep K ct v.G v.m d x) (e : inO v.st d = some (c, fs)) :
    ∃ i a dx vs, d = .ob i ∧ x = .ref a ∧ v.m i = some a ∧ v.st[i]? = some (.ins c fs) ∧ v.H a = some (.ins (ct c) dx vs) ∧ v.H dx = some (.own a) ∧ v.G dx = none ∧ RepP K ct v.G v.m fs vs := by
  unfold inO at e
  split at e
  · rename_i i
    split at e
    · rename_i c' fs' q
      simp only [Option.some.injEq, Prod.mk.injEq] at e
      obtain ⟨rfl, rfl⟩ := e
      cases r with
      | ob em =>
        obtain ⟨a', em', _, dx, vs, h1, h2, h3, r2⟩ := sr.obj i _ q rfl
        rw [em] at em'
        cases em'
        exact ⟨i, _, dx, vs, rfl, rfl, em, q, h1, h2, h3, r2⟩
    · exact nomatch e
  · exact nomatch e
/-- o.f -/
def eAt (cl : String → Bool) (f : Str) (o : E) : E := fun δ s => (o δ s).bind fun x s1 => match inO s1 x with
  | some (c, fs) => if cl c = true then R.ofO (fs.lookup f) s1 else .stk
  | none => .stk
/-- o.f = e -/
def sSetAt (cl : String → Bool) (f : Str) (o e : E) : S := fun δ s => sBind (e δ s) δ fun y s1 => sBind (o δ s1) δ fun x s2 => match x, inO s2 x with
  | .ob i, some (c, fs) => if cl c = true ∧ fs.length < 1000 then .nx δ (s2.set i (.ins c (putD f y fs))) else .stk
  | _, _ => .stk
/-- the classes' facts of an attribute -/
abbrev ClAt (K : PySem.W.Frag) (ct : String → Addr) (cl : String → Bool) (f : Str) : Prop := ∀ c, cl c = true → Cls K (ct c) ∧ NoAttr K (ct c) f
section
variable {X : Cx} {C : Cc} {pos p1 p2 apos : Pos} {e o : Expr} {es : List Expr} {fo fe : E} {fa : As} {f x : Str} {cl : String → Bool} {k n : Nat}
theorem se_at (hcl : ClAt X.K C.ct cl f) (ho : SE X C o fo) (hb : attributeBase o f X.env (eval o X.env) = eval o X.env := by rfl) : SE X C (.Attribute o f pos) (eAt cl f fo) :=
  pe_weak (pe_fld ho hb) fun σ H Q ⟨δ, v, re, eH, h⟩ => ⟨δ, v, re, eH, on_mono (on_bind h) fun d x v1 l1 s1 r1 h1 => by
    cases q : inO v1.st d with
    | none => rw [q] at h1; exact h1.elim
    | some p =>
      obtain ⟨c, fs⟩ := p
      rw [q] at h1
      simp only at h1
      split at h1
      · rename_i hc
        obtain ⟨i, a, dx, vs, rfl, rfl, em, e1, h2, h3, h4, r2⟩ := inO_at s1 r1 q
        obtain ⟨c1, c2⟩ := hcl c hc
        obtain ⟨y, ey, h5⟩ := on_ofO h1
        rcases r2.lookup (x := f) with ⟨z, _⟩ | ⟨d2, v2, z1, z2, z3⟩
        · rw [ey] at z; exact nomatch z
        · rw [ey] at z1
          cases z1
          exact ⟨a, _, dx, vs, v2, rfl, h2, c1, c2, z2, h5 v2 v1 .refl s1 rfl z3⟩
      · exact h1.elim⟩
theorem setAt_ok {K : PySem.W.Frag} {ct : String → Addr} {v : Vw} {i : Nat} {a dx : Addr} {c : String} {fs us : List (Str × D)} {vs ws : List (Str × V)} (sr : SR K ct v) (em : v.m i = some a) (q : v.st[i]? = some (.ins c fs)) (h1 : v.H a = some (.ins (ct c) dx vs)) (h2 : v.H dx = some (.own a)) (h3 : v.G dx = none) (r : RepP K ct v.G v.m us ws) :
    Le v (v.put i a (.ins (ct c) dx ws) (.ins c us)) ∧ SR K ct (v.put i a (.ins (ct c) dx ws) (.ins c us)) := by
  have ne : dx ≠ a := fun z => by rw [z, h1] at h2; cases h2
  refine put_ok sr q rfl em (fun C b fs z => by cases z; exact ⟨vs, h1⟩) ⟨dx, ws, upd_same, ?_, h3, r⟩
  show upd v.H a _ dx = _
  rw [upd_ne ne]
  exact h2
theorem ss_setAt {pos' : Pos} (hcl : ClAt X.K C.ct cl f) (ho : SE X C o fo) (he : SE X C e fe) (hs : swapsWith e (some (.Attribute o f pos')) pos.line X.env = pure false := by rfl) : SS X C (.Assign [.Attribute o f pos'] e pos) (sSetAt cl f fo fe) :=
  ps_weak (ps_fld ho he hs) fun Dn σ H ⟨δ, v, re, eH, h⟩ => ⟨δ, v, re, eH, on_mono (onS_R re h) fun d y v1 l1 s1 r1 h1 => ⟨δ, v1, re.step l1 s1, rfl, on_mono (onS_R (re.step l1 s1) h1) fun d2 x v2 l2 s2 r2 h2 => by
    cases q : inO v2.st d2 with
    | none => rw [q] at h2; cases d2 <;> exact h2.elim
    | some p =>
      obtain ⟨c, fs⟩ := p
      obtain ⟨i, a, dx, vs, rfl, rfl, em, e1, h3, h4, h5, r3⟩ := inO_at s2 r2 q
      rw [q] at h2
      simp only at h2
      split at h2
      · rename_i hc
        obtain ⟨c1, c2⟩ := hcl c hc.1
        obtain ⟨l3, s3⟩ := setAt_ok s2 em e1 h3 h4 h5 (RepP.putF (f := f) (l2.rep r1) r3)
        exact ⟨a, _, dx, vs, rfl, h3, c1, c2, by rw [← r3.length]; exact hc.2, h2 σ (v2.put i a (.ins (C.ct c) dx (L2.putF f y vs)) (.ins c (putD f d fs))) (((re.step l1 s1).step l2 s2).step l3 s3) l3 rfl⟩
      · exact h2.elim⟩⟩
/-- o.m(..) -/
abbrev Mt := String → Option (List D → Sto → R D)
def eMeth (M : Mt) (m : Str) (o : E) (a : As) : E := fun δ s => (o δ s).bind fun x s1 => match inO s1 x with
  | some (c, fs) => if (fs.lookup m).isNone = true then (match M c with
    | some F => (a δ s1).bind fun ds s2 => F (x :: ds) s2
    | none => .stk) else .stk
  | none => .stk
/-- the methods named m of the classes keep what M says -/
abbrev MtsOk (P : Program) (w : World) (K : PySem.W.Frag) (mg : Str → Option Value) (base : Heap) (ct : String → Addr) (k n : Nat) (m : Str) (M : Mt) : Prop := ∀ c F, M c = some F → MtOk P w K mg base (L2.CX P w) k m (ct c) (spG K ct n F)
theorem on_methV {K : PySem.W.Frag} {M : Mt} {σ : L2.St} {H : Hp} {Q : VK} {ta : TE} {t : TA} (hl : LenA fa n) (hta : ∀ σ H Q, liftE K C fo σ H Q → ta σ H Q) (hta2 : ∀ σ H Q, liftA K C fa σ H Q → t σ H Q) (h : liftE K C (eMeth M x fo fa) σ H Q)
    (mono : ∀ σ H (Q Q' : VK), (∀ v H, Q v H → Q' v H) → ta σ H Q → ta σ H Q') : tMethV (fun C' sp => ∃ c F, C' = C.ct c ∧ sp = spG K C.ct (n + 1) F ∧ M c = some F) x (WE C.W) ta t σ H Q := by
  obtain ⟨δ, v, re, eH, h⟩ := h
  refine hta _ _ _ ⟨δ, v, re, eH, on_mono (on_bind h) fun d y v1 l1 s1 r1 h1 => ?_⟩
  cases q : inO v1.st d with
  | none => rw [q] at h1; exact h1.elim
  | some p =>
    obtain ⟨c, fs⟩ := p
    rw [q] at h1
    simp only at h1
    split at h1
    · rename_i hc
      cases z : M c with
      | none => rw [z] at h1; exact h1.elim
      | some F =>
        rw [z] at h1
        obtain ⟨i, a, dx, vs, rfl, rfl, em, e1, h3, h4, h5, r3⟩ := inO_at s1 r1 q
        refine ⟨a, _, dx, vs, spG K C.ct (n + 1) F, rfl, h3, ?_, ⟨c, F, rfl, rfl, z⟩, hta2 _ _ _ ⟨δ, v1, re.step l1 s1, rfl, on_mono (on_eq (on_bind h1)) fun ds us v2 l2 s2 r2 h2 => ?_⟩⟩
        · rcases r3.lookup (x := x) with ⟨_, z1⟩ | ⟨d2, v2, z1, _⟩
          · exact z1
          · rw [z1] at hc; exact nomatch hc
        · obtain ⟨h2, s, q2⟩ := h2
          exact on_sp s2 (by rw [List.length_cons, hl _ _ _ _ q2]) (.cons (l2.rep r1) r2) h2
    · exact h1.elim
theorem se_meth {M : Mt} {m : Str} {pl : Sem Bool} (hM : MtsOk X.prog X.w X.K X.mg X.base C.ct k (n + 1) m M) (hr : Room k X.A) (tk : Takes X C.W) (ho : SE X C o fo) (ha : SA X C (e :: es) fa) (hl : LenA fa n)
    (ht : eval (.Call (.Attribute o m apos) (e :: es) [] pos) X.env = (do let ov ← eval o X.env; standAt apos.atName; let (f, first) ← holding [ov] (getMethod ov m pl); callWith pos f first (backTo pos (starEach (e :: es) X.env)) (backToKw pos (keywordEach [] X.env))) := by rfl)
    (hst : starEach (e :: es) X.env = (false, eval e X.env) :: starEach es X.env := by rfl) (hpl : (backTo pos (starEach es X.env)).any (·.1) = false := by rfl) :
    SE X C (.Call (.Attribute o m apos) (e :: es) [] pos) (eMeth M m fo fa) :=
  pe_weak (pe_methV (pl := pl) (S := fun C' sp => ∃ c F, C' = C.ct c ∧ sp = spG X.K C.ct (n + 1) F ∧ M c = some F) (CX := L2.CX X.prog X.w) (k := k) (fun C' sp ⟨c, F, e1, e2, e3⟩ => by subst e1; subst e2; exact hM c F e3) hr (fun σ => passAt tk σ) ho ha ht hst hpl) fun σ H Q h =>
    on_methV hl (fun _ _ _ z => z) (fun _ _ _ z => z) h fun σ H Q Q' w ⟨δ, v, re, eH, h⟩ => ⟨δ, v, re, eH, on_mono h fun _ _ _ _ _ _ z => w _ _ z⟩
theorem se_meth0 {M : Mt} {m : Str} {pl : Sem Bool} (hM : MtsOk X.prog X.w X.K X.mg X.base C.ct k 1 m M) (hr : Room k X.A) (tk : Takes X C.W) (ho : SE X C o fo)
    (ht : eval (.Call (.Attribute o m apos) [] [] pos) X.env = (do let ov ← eval o X.env; standAt apos.atName; let (f, first) ← holding [ov] (getMethod ov m pl); callWith pos f first (backTo pos (starEach [] X.env)) (backToKw pos (keywordEach [] X.env))) := by rfl) :
    SE X C (.Call (.Attribute o m apos) [] [] pos) (eMeth M m fo aNil) :=
  pe_weak (pe_methV0 (pl := pl) (S := fun C' sp => ∃ c F, C' = C.ct c ∧ sp = spG X.K C.ct (0 + 1) F ∧ M c = some F) (CX := L2.CX X.prog X.w) (k := k) (fun C' sp ⟨c, F, e1, e2, e3⟩ => by subst e1; subst e2; exact hM c F e3) hr (fun σ => passAt tk σ) ho ht) fun σ H Q h =>
    on_methV (fa := aNil) lenA_nil (fun _ _ _ z => z) (fun σ H Q ⟨δ, v, re, eH, h⟩ => by subst eH; exact on_self (b := []) re.sr h .nil) h fun σ H Q Q' w ⟨δ, v, re, eH, h⟩ => ⟨δ, v, re, eH, on_mono h fun _ _ _ _ _ _ z => w _ _ z⟩
/-- C.m(..) -/
theorem se_cfun {m : Str} {Ca g : Addr} {fd : FuncData} {ps : List Str} {F : List D → Sto → R D} {pl : Sem Bool} (c : CfOk X.K Ca g m) (hm : X.mg x = some (.ref Ca)) (hF : FnOk X.prog X.w X.K X.mg X.base (L2.CX X.prog X.w) k g fd ps (spG X.K C.ct n F)) (hr : Room k X.A) (tk : Takes X C.W) (hg : Gl X x) (hb : Binds X.K fd ps [])
    (ha : SA X C (e :: es) fa) (hl : LenA fa n)
    (ht : eval (.Call (.Attribute (.Name x p1) m p2) (e :: es) [] pos) X.env = (do let ov ← eval (.Name x p1) X.env; standAt p2.atName; let (f, first) ← holding [ov] (getMethod ov m pl); callWith pos f first (backTo pos (starEach (e :: es) X.env)) (backToKw pos (keywordEach [] X.env))) := by rfl)
    (hdb : (x == ("__debug__" : Str)) = false := by decide) (hst : starEach (e :: es) X.env = (false, eval e X.env) :: starEach es X.env := by rfl) (hpl : (backTo pos (starEach es X.env)).any (·.1) = false := by rfl) :
    SE X C (.Call (.Attribute (.Name x p1) m p2) (e :: es) [] pos) (eCall F fa) :=
  pe_weak (pe_cfun (pl := pl) c hg hm hF hr hb (fun σ => passAt tk σ) ha ht hdb hst hpl) fun σ H Q ⟨δ, v, re, eH, h⟩ => ⟨δ, v, re, eH, on_mono (on_eq (on_bind h)) fun ds vs v1 l1 s1 r1 h1 => by
    obtain ⟨h1, s, q⟩ := h1
    exact on_sp s1 (hl _ _ _ _ q) r1 h1⟩
/-- C(..) -/
def eMake (c : String) (F : List D → Sto → R D) (a : As) : E := fun δ s => (a δ s).bind fun ds s1 => (F (.ob s1.length :: ds) (s1 ++ [.ins c []])).bind fun r s2 => match r with
  | .non => .ok (.ob s1.length) s2
  | _ => .stk
theorem se_make {c : String} {g : Addr} {fd : FuncData} {ps : List Str} {F : List D → Sto → R D} (M : Mk X.K (C.ct c) g) (hm : X.mg x = some (.ref (C.ct c))) (hF : FnOk X.prog X.w X.K X.mg X.base (L2.CX X.prog X.w) k g fd ps (spG X.K C.ct (n + 1) F)) (hr : Room (k + 1) X.A) (tk : Takes X C.W) (hg : Gl X x) (hb : Binds X.K fd ps [])
    (ha : SA X C (e :: es) fa) (hl : LenA fa n) (hdb : (x == ("__debug__" : Str)) = false := by decide) (hst : starEach (e :: es) X.env = (false, eval e X.env) :: starEach es X.env := by rfl) (hpl : (backTo pos (starEach es X.env)).any (·.1) = false := by rfl) :
    SE X C (.Call (.Name x p1) (e :: es) [] pos) (eMake c F fa) :=
  pe_weak (pe_makeS M hF hr hg hm hb (fun σ => passAt tk σ) ha hdb hst hpl) fun σ H Q ⟨δ, v, re, eH, h⟩ => ⟨δ, v, re, eH, on_mono (on_eq (on_bind h)) fun ds vs v1 l1 s1 r1 h1 => by
    obtain ⟨h1, s, q⟩ := h1
    intro a dx na ndx ne
    have hs : Same v1.H (upd (upd v1.H dx (.own a)) a (.ins (C.ct c) dx [])) := fun b u z => by rw [upd_ne (ne_of_none z na), upd_ne (ne_of_none z ndx)]; exact z
    obtain ⟨l2, s2⟩ := alloc_ok (p := a) (H' := upd (upd v1.H dx (.own a)) a (.ins (C.ct c) dx [])) (o := .ins c []) s1 na hs (fun C' b fs z => by rw [upd_same] at z; cases z; exact ndx)
      ⟨dx, [], upd_same, by show upd _ a _ dx = _; rw [upd_ne ne, upd_same], s1.free ndx, .nil⟩
    refine ⟨_, .ob v1.st.length :: ds, rfl, s2, by rw [List.length_cons, hl _ _ _ _ q], .cons (.ob mset_same) (l2.repl r1), ?_⟩
    have h3 := on_bind (rel := rE X.K C.ct) h1
    show match F (.ob v1.st.length :: ds) (v1.st ++ [.ins c []]) with
      | .ok d s => _
      | .exc e s => _
      | .stk => _
    cases z : F (.ob v1.st.length :: ds) (v1.st ++ [.ins c []]) with
    | stk => rw [z] at h3; exact h3.elim
    | exc e2 s3 => rw [z] at h3; exact fun cls dd v' l sr es rx => h3 cls dd v' (l2.trans l) sr es rx
    | ok d s3 =>
      rw [z] at h3
      intro y v' l sr es ry
      have h4 := h3 y v' (l2.trans l) sr es ry
      cases ry <;> first
        | exact h4.elim
        | exact ⟨rfl, on_self sr h4 (.ob (l.m _ _ mset_same))⟩⟩
end
end Gs

/-! GDc: dicts of the store: made, read, stored into, their values walked. -/
namespace Gs
open PySem L2
def eDNewK : E := fun _ s => .ok (.ob s.length) (s ++ [.dK []])
def eDNewT : E := fun _ s => .ok (.ob s.length) (s ++ [.dT []])
def keyD : D → Option Key
  | .int i => some (.inl i)
  | .str x => some (.inr x)
  | _ => none
def keysD : List D → Option (List Key)
  | [] => some []
  | d :: ds => match keyD d, keysD ds with
    | some k, some ks => some (k :: ks)
    | _, _ => none
/-- the pairs of a dict with plain keys -/
def dkO (s : Sto) : D → Option (List (Key × D))
  | .ob i => match s[i]? with
    | some (.dK kvs) => some kvs
    | some (.fK kvs) => some kvs
    | _ => none
  | .dct ks ds => some (ks.zip ds)
  | _ => none
def dtO (s : Sto) : D → Option (List (List Key × D))
  | .ob i => match s[i]? with
    | some (.dT kvs) => some kvs
    | _ => none
  | _ => none
section
variable {κ : Type} [DecidableEq κ]
def valD (kvs : List (κ × D)) (k : κ) : Option D := (kvs.find? fun kv => decide (kv.1 = k)).map (·.2)
def putKD (kvs : List (κ × D)) (k : κ) (v : D) : List (κ × D) := if (kvs.any fun kv => decide (kv.1 = k)) = true then kvs.map (fun kv => if kv.1 = k then (kv.1, v) else kv) else kvs ++ [(k, v)]
variable {K : PySem.W.Frag} {ct : String → Addr} {G : Hp} {m : Nat → Option Addr}
theorem RepP.val {ds : List (κ × D)} {vs : List (κ × V)} (k : κ) (r : RepP K ct G m ds vs) : (valD ds k = none ∧ L2.valV vs k = none) ∨ ∃ d v, valD ds k = some d ∧ L2.valV vs k = some v ∧ Rep K ct G m d v := by
  induction r with
  | nil => exact .inl ⟨rfl, rfl⟩
  | @cons x d v ds vs h r ih =>
    by_cases e : x = k
    · exact .inr ⟨d, v, by simp [valD, e], L2.valV_pos (p := (x, v)) e, h⟩
    · rw [L2.valV_neg (p := (x, v)) e]
      have e2 : valD ((x, d) :: ds) k = valD ds k := by simp [valD, e]
      rw [e2]
      exact ih
theorem RepP.any {ds : List (κ × D)} {vs : List (κ × V)} (k : κ) (r : RepP K ct G m ds vs) : (ds.any fun kv => decide (kv.1 = k)) = vs.any fun kv => decide (kv.1 = k) := by
  induction r with
  | nil => rfl
  | cons h r ih => simp only [List.any_cons, ih]
theorem RepP.mapPut {d : D} {v : V} (h : Rep K ct G m d v) {ds : List (κ × D)} {vs : List (κ × V)} (k : κ) (r : RepP K ct G m ds vs) : RepP K ct G m (ds.map fun kv => if kv.1 = k then (kv.1, d) else kv) (vs.map fun kv => if kv.1 = k then (kv.1, v) else kv) := by
  induction r with
  | nil => exact .nil
  | @cons x d0 v0 ds vs h0 r ih =>
    simp only [List.map_cons]
    by_cases e : x = k
    · rw [if_pos e, if_pos e]
      exact .cons h ih
    · rw [if_neg e, if_neg e]
      exact .cons h0 ih
theorem RepP.putK {d : D} {v : V} (h : Rep K ct G m d v) {ds : List (κ × D)} {vs : List (κ × V)} (k : κ) (r : RepP K ct G m ds vs) : RepP K ct G m (putKD ds k d) (L2.putK vs k v) := by
  unfold putKD L2.putK
  rw [r.any k]
  split
  · exact r.mapPut h k
  · exact r.append (.cons h .nil)
end
section
variable {K : PySem.W.Frag} {ct : String → Addr} {v : Vw}
theorem keyD_rep {d : D} {x : V} {k : Key} (e : keyD d = some k) (r : Rep K ct v.G v.m d x) : x = kV k := by
  cases r <;> simp only [keyD, Option.some.injEq, reduceCtorEq] at e <;> subst e <;> rfl
theorem keysD_rep : ∀ {ds : List D} {xs : List V} {ks : List Key}, keysD ds = some ks → RepL K ct v.G v.m ds xs → xs = ks.map kV
  | [], _, ks, e, .nil => by simp only [keysD, Option.some.injEq] at e; subst e; rfl
  | d :: ds, _, ks, e, .cons h r => by
    simp only [keysD] at e
    split at e
    · rename_i k ks' e1 e2
      simp only [Option.some.injEq] at e
      subst e
      rw [List.map_cons, keyD_rep e1 h, keysD_rep e2 r]
    · exact nomatch e
theorem dkO_at {d : D} {x : V} {kvs : List (Key × D)} (sr : SR K ct v) (r : Rep K ct v.G v.m d x) (e : dkO v.st d = some kvs) : ∃ a vs, x = .ref a ∧ Rd v.H a (.dK vs) ∧ RepP K ct v.G v.m kvs vs := by
  unfold dkO at e
  split at e
  · rename_i i
    cases r with
    | ob em =>
      split at e
      · rename_i kvs' q
        simp only [Option.some.injEq] at e
        subst e
        obtain ⟨a', em', _, vs, h, r2⟩ := sr.obj i _ q rfl
        rw [em] at em'
        cases em'
        exact ⟨_, vs, rfl, .inl h, r2⟩
      · rename_i kvs' q
        simp only [Option.some.injEq] at e
        subst e
        obtain ⟨a', ob, vs, em', h, r2⟩ := sr.fk i _ q
        rw [em] at em'
        cases em'
        exact ⟨_, vs, rfl, .inr ⟨ob, sr.sub _ _ h⟩, r2⟩
      · exact nomatch e
  · rename_i ks ds
    simp only [Option.some.injEq] at e
    subst e
    cases r with
    | dct h l r => exact ⟨_, _, rfl, .inl (sr.sub _ _ h), RepP.zip r⟩
  · exact nomatch e
theorem dtO_at {d : D} {x : V} {kvs : List (List Key × D)} (sr : SR K ct v) (r : Rep K ct v.G v.m d x) (e : dtO v.st d = some kvs) : ∃ i a vs, d = .ob i ∧ x = .ref a ∧ v.m i = some a ∧ v.st[i]? = some (.dT kvs) ∧ v.H a = some (.dT vs) ∧ RepP K ct v.G v.m kvs vs := by
  unfold dtO at e
  split at e
  · rename_i i
    split at e
    · rename_i kvs' q
      simp only [Option.some.injEq] at e
      subst e
      cases r with
      | ob em =>
        obtain ⟨a', em', _, vs, h, r2⟩ := sr.obj i _ q rfl
        rw [em] at em'
        cases em'
        exact ⟨i, _, vs, rfl, rfl, em, q, h, r2⟩
    · exact nomatch e
  · exact nomatch e
end
/-- o[k] -/
def eDIx (o k : E) : E := fun δ s => (o δ s).bind fun x s1 => (k δ s1).bind fun y s2 => match dkO s2 x, keyD y with
  | some kvs, some k => R.ofO (valD kvs k) s2
  | _, _ => .stk
/-- o.get(k, e) -/
def eDGet2 (o k e : E) : E := fun δ s => (o δ s).bind fun x s1 => if (dkO s1 x).isSome = true then ((k δ s1).bind fun y s2 => (e δ s2).bind fun z s3 => match dkO s3 x, keyD y with
  | some kvs, some k => .ok ((valD kvs k).getD z) s3
  | _, _ => .stk) else .stk
/-- o.get((k, ..), e) -/
def eDGetT (o : E) (ks : As) (e : E) : E := fun δ s => (o δ s).bind fun x s1 => if (dtO s1 x).isSome = true then ((ks δ s1).bind fun ys s2 => if ys.length ≤ sizeLine then (e δ s2).bind fun z s3 => (match dtO s3 x, keysD ys with
  | some kvs, some k => .ok ((valD kvs k).getD z) s3
  | _, _ => .stk) else .stk) else .stk
/-- o[k] = e -/
def sDPutK (o k e : E) : S := fun δ s => sBind (e δ s) δ fun z s1 => sBind (o δ s1) δ fun x s2 => sBind (k δ s2) δ fun y s3 => match x, keyD y with
  | .ob i, some k => (match s3[i]? with
    | some (.dK kvs) => if kvs.length < sizeLine then .nx δ (s3.set i (.dK (putKD kvs k z))) else .stk
    | _ => .stk)
  | _, _ => .stk
/-- o[(k, ..)] = e -/
def sDPutT (o : E) (ks : As) (e : E) : S := fun δ s => sBind (e δ s) δ fun z s1 => sBind (o δ s1) δ fun x s2 => sBind (ks δ s2) δ fun ys s3 => if ys.length ≤ sizeLine then (match x, keysD ys with
  | .ob i, some k => (match s3[i]? with
    | some (.dT kvs) => if kvs.length < sizeLine then .nx δ (s3.set i (.dT (putKD kvs k z))) else .stk
    | _ => .stk)
  | _, _ => .stk) else .stk
/-- o.values(), walked: the dict is read alone from here on -/
def iDVals (o : E) : As := fun δ s => (o δ s).bind fun x s1 => match x with
  | .ob i => match s1[i]? with
    | some (.dK kvs) => .ok (kvs.map (·.2)) (s1.set i (.fK kvs))
    | some (.fK kvs) => .ok (kvs.map (·.2)) s1
    | _ => .stk
  | _ => .stk
theorem tup_new {K : PySem.W.Frag} {ct : String → Addr} {v : Vw} {p : Addr} {xs : List V} (sr : SR K ct v) (hp : v.H p = none) : Le v (v.new p (.tup xs)) ∧ SR K ct (v.new p (.tup xs)) := new_ok sr hp
/-- a dict of the store is read alone from here on -/
theorem lockK_ok {K : PySem.W.Frag} {ct : String → Addr} {v : Vw} {i : Nat} {a : Addr} {ob : Obj} {kvs : List (Key × D)} {vs : List (Key × V)} (s : SR K ct v) (e0 : v.st[i]? = some (.dK kvs)) (em : v.m i = some a) (hu : v.H a = some (.dK vs)) (r : RepP K ct v.G v.m kvs vs) :
    Le v ⟨upd v.G a (.frz ob (.dK vs)), upd v.H a (.frz ob (.dK vs)), v.m, v.st.set i (.fK kvs)⟩ ∧ SR K ct ⟨upd v.G a (.frz ob (.dK vs)), upd v.H a (.frz ob (.dK vs)), v.m, v.st.set i (.fK kvs)⟩ := by
  obtain ⟨ga, w0, hw0, no0⟩ := s.obj_ne e0 rfl em
  have own : v.owns a := ⟨i, _, a, e0, rfl, em, .inl rfl⟩
  have get : ∀ {j : Nat} {w : O}, (v.st.set i (.fK kvs))[j]? = some w → w.live = true → j ≠ i ∧ v.st[j]? = some w := fun {j w} e l => by
    by_cases z : i = j
    · subst z
      rw [List.getElem?_set_self (List.getElem?_eq_some_iff.mp e0).1] at e
      cases e
      cases l
    · rw [List.getElem?_set_ne z] at e
      exact ⟨fun q => z q.symm, e⟩
  have sg := same_new ga (.frz ob (.dK vs))
  have na : ∀ {j : Nat} {w : O} {a2 : Addr}, j ≠ i → v.st[j]? = some w → w.live = true → v.m j = some a2 → a2 ≠ a := fun z e l em2 zz => z (s.inj _ i _ _ a e e0 l rfl (zz ▸ em2) em)
  refine ⟨⟨sg, .refl, fun b w q n => ?_, fun b q => ?_, fun b ⟨j, w, a2, e, l, em2, q⟩ => ?_, fun b q => ?_⟩, same_upd s.sub, fun j hj => s.dom j (by simpa using hj), fun j w e l => ?_, fun j k w w2 a2 e1 e2 l1 l2 m1 m2 => ?_, fun j kv2 e => ?_⟩
  · show upd v.H a _ b = some w
    rw [upd_ne fun z => n (by rw [z]; exact own)]
    exact q
  · by_cases z : b = a
    · exact .inr (.inr (z ▸ own))
    · have q' : upd v.G a (.frz ob (.dK vs)) b ≠ none := q
      rw [upd_ne z] at q'
      exact .inl q'
  · obtain ⟨z, e⟩ := get e l
    have em2' : v.m j = some a2 := em2
    refine .inl ⟨j, w, a2, e, l, em2', q.imp id fun ⟨C, fs, q⟩ => ⟨C, fs, ?_⟩⟩
    have q' : upd v.H a (.frz ob (.dK vs)) a2 = some (.ins C b fs) := q
    rw [upd_ne (na z e l em2')] at q'
    exact q'
  · have q' : upd v.H a (.frz ob (.dK vs)) b = none := q
    by_cases z : b = a
    · rw [z, upd_same] at q'
      cases q'
    · rw [upd_ne z] at q'
      exact q'
  · obtain ⟨z, e⟩ := get e l
    obtain ⟨a2, em2, ga2, r2⟩ := s.obj j w e l
    have n2 := na z e l em2
    refine ⟨a2, em2, (upd_ne n2).trans ga2, r2.mono' (v := v) sg .refl (upd_ne n2) fun C dx fs _ q1 q2 => ?_⟩
    have nd : dx ≠ a := fun zz => by
      rw [zz, hw0] at q1
      exact no0 _ (Option.some.inj q1)
    exact ⟨upd_ne nd, (upd_ne nd).trans q2⟩
  · exact s.inj j k w w2 a2 (get e1 l1).2 (get e2 l2).2 l1 l2 m1 m2
  · have e' : (v.st.set i (.fK kvs))[j]? = some (.fK kv2) := e
    by_cases z : i = j
    · subst z
      rw [List.getElem?_set_self (List.getElem?_eq_some_iff.mp e0).1] at e'
      cases e'
      exact ⟨a, ob, vs, em, upd_same, r.mono sg .refl⟩
    · rw [List.getElem?_set_ne z] at e'
      exact FkR.mono (v := v) (v' := ⟨upd v.G a (.frz ob (.dK vs)), upd v.H a (.frz ob (.dK vs)), v.m, v.st.set i (.fK kvs)⟩) sg .refl (s.fk j kv2 e')
section
variable {X : Cx} {C : Cc} {pos p1 p2 apos cpos : Pos} {e o k : Expr} {es : List Expr} {fo fk fe : E} {fa : As}
theorem se_dnewK : SE X C (.Dict [] [] pos) eDNewK := pe_weak pe_dnewK fun σ H Q ⟨δ, v, re, eH, h⟩ p hp => by
  subst eH
  obtain ⟨l2, s2⟩ := alloc_ok (p := p) (H' := upd v.H p (.dK [])) (o := .dK []) re.sr hp (same_new hp _) (fun C b fs q => by rw [upd_same] at q; cases q) ⟨[], upd_same, .nil⟩
  exact h (.ref p) (v.alloc p (upd v.H p (.dK [])) (.dK [])) l2 s2 rfl (.ob mset_same)
theorem se_dnewT : SE X C (.Dict [] [] pos) eDNewT := pe_weak pe_dnewT fun σ H Q ⟨δ, v, re, eH, h⟩ p hp => by
  subst eH
  obtain ⟨l2, s2⟩ := alloc_ok (p := p) (H' := upd v.H p (.dT [])) (o := .dT []) re.sr hp (same_new hp _) (fun C b fs q => by rw [upd_same] at q; cases q) ⟨[], upd_same, .nil⟩
  exact h (.ref p) (v.alloc p (upd v.H p (.dT [])) (.dT [])) l2 s2 rfl (.ob mset_same)
theorem se_dix (hu : X.A.units + 1 < cLine) (ho : SE X C o fo) (hk : SE X C k fk) (hs : NoSl k := by intro _ _; rfl) : SE X C (.Subscript o k pos) (eDIx fo fk) :=
  pe_weak (pe_dget hu ho hk hs) fun σ H Q ⟨δ, v, re, eH, h⟩ => ⟨δ, v, re, eH, on_mono (on_bind h) fun d x v1 l1 s1 r1 h1 => ⟨δ, v1, re.step l1 s1, rfl, on_mono (on_bind h1) fun d2 y v2 l2 s2 r2 h2 => by
    cases q1 : dkO v2.st d with
    | none => rw [q1] at h2; exact h2.elim
    | some kvs =>
      cases q2 : keyD d2 with
      | none => rw [q1, q2] at h2; exact h2.elim
      | some kk =>
        rw [q1, q2] at h2
        obtain ⟨a, vs, rfl, rd, rp⟩ := dkO_at s2 (l2.rep r1) q1
        have ey := keyD_rep q2 r2
        subst ey
        obtain ⟨z, ez, h3⟩ := on_ofO h2
        rcases rp.val kk with ⟨z1, _⟩ | ⟨d3, v3, z1, z2, z3⟩
        · rw [ez] at z1; exact nomatch z1
        · rw [ez] at z1
          cases z1
          exact ⟨a, v3, rfl, .inl ⟨vs, kk, rd, rfl, z2.symm⟩, h3 v3 v2 .refl s2 rfl z3⟩⟩⟩
theorem se_dget2 (hu : X.A.units + 1 < cLine) (ho : SE X C o fo) (hk : SE X C k fk) (he : SE X C e fe) (m : M2 X o "get" apos k e cpos := by exact ⟨rfl, rfl, rfl, rfl⟩) : SE X C (.Call (.Attribute o "get" apos) [k, e] [] cpos) (eDGet2 fo fk fe) :=
  pe_weak (pe_dget2 hu ho hk he m) fun σ H Q ⟨δ, v, re, eH, h⟩ => ⟨δ, v, re, eH, on_mono (on_bind h) fun d x v1 l1 s1 r1 h1 => by
    split at h1
    · rename_i hs
      obtain ⟨kv0, e0⟩ := isSome_of hs
      obtain ⟨a, vs0, rfl, rd0, _⟩ := dkO_at s1 r1 e0
      refine ⟨a, rfl, .inl ⟨vs0, rd0⟩, δ, v1, re.step l1 s1, rfl, on_mono (on_bind h1) fun d2 y v2 l2 s2 r2 h2 => ⟨δ, v2, (re.step l1 s1).step l2 s2, rfl, on_mono (on_bind h2) fun d3 z v3 l3 s3 r3 h3 => ?_⟩⟩
      cases q1 : dkO v3.st d with
      | none => rw [q1] at h3; exact h3.elim
      | some kvs =>
        cases q2 : keyD d2 with
        | none => rw [q1, q2] at h3; exact h3.elim
        | some kk =>
          rw [q1, q2] at h3
          dsimp only at h3
          obtain ⟨a', vs, ea, rd, rp⟩ := dkO_at s3 ((l2.trans l3).rep r1) q1
          cases ea
          have ey := keyD_rep q2 r2
          subst ey
          rcases rp.val kk with ⟨z1, z2⟩ | ⟨d4, v4, z1, z2, z3⟩
          · rw [z1] at h3
            exact ⟨none, .inl ⟨vs, kk, rd, rfl, z2.symm⟩, on_self s3 h3 r3⟩
          · rw [z1] at h3
            exact ⟨some v4, .inl ⟨vs, kk, rd, rfl, z2.symm⟩, on_self s3 h3 z3⟩
    · exact h1.elim⟩
theorem se_dgetT {kk : Nat} (hu : X.A.units + 1 < cLine) (ho : SE X C o fo) (hk : SA X C es fa) (he : SE X C e fe) (m : M2 X o "get" apos (.Tuple es kk p1) e cpos := by exact ⟨rfl, rfl, rfl, rfl⟩) : SE X C (.Call (.Attribute o "get" apos) [.Tuple es kk p1, e] [] cpos) (eDGetT fo fa fe) :=
  pe_weak (pe_dget2 hu ho (pe_tup hk) he m) fun σ H Q ⟨δ, v, re, eH, h⟩ => ⟨δ, v, re, eH, on_mono (on_bind h) fun d x v1 l1 s1 r1 h1 => by
    split at h1
    · rename_i hs
      obtain ⟨kv0, e0⟩ := isSome_of hs
      obtain ⟨i, a, vs0, rfl, rfl, em, e1, hh, _⟩ := dtO_at s1 r1 e0
      refine ⟨a, rfl, .inr ⟨vs0, .inl hh⟩, δ, v1, re.step l1 s1, rfl, on_mono (on_bind h1) fun ds ys v2 l2 s2 r2 h2 => ?_⟩
      have hl := r2.length
      split at h2
      · rename_i hz
        refine ⟨by omega, fun p hp => ?_⟩
        obtain ⟨l3, s3⟩ := tup_new (xs := ys) s2 hp
        have h2' := on_step l3 h2
        refine ⟨δ, v2.new p (.tup ys), ((re.step l1 s1).step l2 s2).step l3 s3, rfl, on_mono (on_bind (rel := rE X.K C.ct) h2') fun d3 z v4 l4 s4 r4 h4 => ?_⟩
        have hp4 : v4.H p = some (.tup ys) := s4.sub _ _ (l4.g _ _ upd_same)
        cases q1 : dtO v4.st (.ob i) with
        | none => rw [q1] at h4; exact h4.elim
        | some kvs =>
          cases q2 : keysD ds with
          | none => rw [q1, q2] at h4; exact h4.elim
          | some kk =>
            rw [q1, q2] at h4
            dsimp only at h4
            obtain ⟨i', a', vs, ei, ea, em', e1', hh', rp⟩ := dtO_at s4 (((l2.trans l3).trans l4).rep r1) q1
            cases ei
            cases ea
            have ey := keysD_rep q2 r2
            subst ey
            rcases rp.val kk with ⟨z1, z2⟩ | ⟨d4, v5, z1, z2, z3⟩
            · rw [z1] at h4
              exact ⟨none, .inr ⟨vs, kk, p, .inl hh', rfl, hp4, z2.symm⟩, on_self s4 h4 r4⟩
            · rw [z1] at h4
              exact ⟨some v5, .inr ⟨vs, kk, p, .inl hh', rfl, hp4, z2.symm⟩, on_self s4 h4 z3⟩
      · exact h2.elim
    · exact h1.elim⟩
theorem ss_dputK {pos' : Pos} (hu : X.A.units + 1 < cLine) (ho : SE X C o fo) (hk : SE X C k fk) (he : SE X C e fe) (hs : swapsWith e (some (.Subscript o k pos')) pos.line X.env = pure false := by rfl) : SS X C (.Assign [.Subscript o k pos'] e pos) (sDPutK fo fk fe) :=
  ps_weak (ps_dput hu ho hk he hs) fun Dn σ H ⟨δ, v, re, eH, h⟩ => ⟨δ, v, re, eH, on_mono (onS_R re h) fun d z v1 l1 s1 r1 h1 => ⟨δ, v1, re.step l1 s1, rfl, on_mono (onS_R (re.step l1 s1) h1) fun d2 x v2 l2 s2 r2 h2 =>
    ⟨δ, v2, (re.step l1 s1).step l2 s2, rfl, on_mono (onS_R ((re.step l1 s1).step l2 s2) h2) fun d3 y v3 l3 s3 r3 h3 => by
      cases d2 with
      | ob i =>
        cases q2 : keyD d3 with
        | none => rw [q2] at h3; exact h3.elim
        | some kk =>
          rw [q2] at h3
          simp only at h3
          have ey := keyD_rep q2 r3
          subst ey
          cases l3.rep r2 with
          | @ob _ _ _ a em =>
            split at h3
            · rename_i kvs q
              split at h3
              · rename_i hz
                obtain ⟨a', em', _, vs, hh, rp⟩ := s3.obj i _ q rfl
                rw [em] at em'
                cases em'
                have rn := RepP.putK ((l2.trans l3).rep r1) kk rp
                obtain ⟨l4, s4⟩ := put_ok (u := .dK (L2.putK vs kk z)) (o := .dK (putKD kvs kk d)) s3 q rfl em (fun C b fs z => nomatch z) ⟨_, upd_same, rn⟩
                exact ⟨a, _, rfl, .inl ⟨vs, kk, hh, rfl, by rw [← rp.length]; exact hz, rfl⟩, h3 σ (v3.put i a (.dK (L2.putK vs kk z)) (.dK (putKD kvs kk d))) ((((re.step l1 s1).step l2 s2).step l3 s3).step l4 s4) l4 rfl⟩
              · exact h3.elim
            · exact h3.elim
      | _ => exact h3.elim⟩⟩⟩
theorem ss_dputT {pos' : Pos} {kn : Nat} (hu : X.A.units + 1 < cLine) (ho : SE X C o fo) (hk : SA X C es fa) (he : SE X C e fe) (hs : swapsWith e (some (.Subscript o (.Tuple es kn p1) pos')) pos.line X.env = pure false := by rfl) : SS X C (.Assign [.Subscript o (.Tuple es kn p1) pos'] e pos) (sDPutT fo fa fe) :=
  ps_weak (ps_dput hu ho (pe_tup hk) he hs) fun Dn σ H ⟨δ, v, re, eH, h⟩ => ⟨δ, v, re, eH, on_mono (onS_R re h) fun d z v1 l1 s1 r1 h1 => ⟨δ, v1, re.step l1 s1, rfl, on_mono (onS_R (re.step l1 s1) h1) fun d2 x v2 l2 s2 r2 h2 =>
    ⟨δ, v2, (re.step l1 s1).step l2 s2, rfl, on_mono (onS_R ((re.step l1 s1).step l2 s2) h2) fun ds ys v3 l3 s3 r3 h3 => by
      have hl := r3.length
      split at h3
      · rename_i hz
        refine ⟨by omega, fun p hp => ?_⟩
        obtain ⟨l9, s9⟩ := tup_new (xs := ys) s3 hp
        cases d2 with
        | ob i =>
          cases q2 : keysD ds with
          | none => rw [q2] at h3; exact h3.elim
          | some kk =>
            rw [q2] at h3
            simp only at h3
            have ey := keysD_rep q2 r3
            subst ey
            cases (l3.trans l9).rep r2 with
            | @ob _ _ _ a em =>
              split at h3
              · rename_i kvs q
                split at h3
                · rename_i hz2
                  obtain ⟨a', em', _, vs, hh, rp⟩ := s9.obj i _ q rfl
                  rw [em] at em'
                  cases em'
                  have rn := RepP.putK (((l2.trans l3).trans l9).rep r1) kk rp
                  obtain ⟨l4, s4⟩ := put_ok (u := .dT (L2.putK vs kk z)) (o := .dT (putKD kvs kk d)) s9 q rfl em (fun C b fs z => nomatch z) ⟨_, upd_same, rn⟩
                  exact ⟨a, _, rfl, .inr ⟨vs, kk, p, hh, rfl, upd_same, by rw [← rp.length]; exact hz2, rfl⟩, h3 σ ((v3.new p (.tup (kk.map kV))).put i a (.dT (L2.putK vs kk z)) (.dT (putKD kvs kk d))) (((((re.step l1 s1).step l2 s2).step l3 s3).step l9 s9).step l4 s4) (l9.trans l4) rfl⟩
                · exact h3.elim
              · exact h3.elim
        | _ => exact h3.elim
      · exact h3.elim⟩⟩⟩
theorem itOk_vals {K : PySem.W.Frag} {ct : String → Addr} {v : Vw} {a : Addr} {ob : Obj} {vs : List (Key × V)} {kvs : List (Key × D)} (h : v.G a = some (.frz ob (.dK vs))) (r : RepP K ct v.G v.m kvs vs) : ItOk K ct (Itd a ob vs) v (kvs.map (·.2)) where
  go := fun i w l s hi => ⟨s.sub _ _ (l.g _ _ h), by have z := r.length; rw [List.length_map] at hi; omega⟩
  stop := fun i w l s hi => ⟨s.sub _ _ (l.g _ _ h), by have z := r.length; rw [List.length_map] at hi; omega⟩
  yld := fun i w x H' l s hi y => by
    obtain ⟨rfl, k, e⟩ := y
    obtain ⟨x', e', rv⟩ := r.vals.get (List.getElem?_eq_getElem hi)
    rw [List.getElem?_map, e] at e'
    cases e'
    exact ⟨_, w, List.getElem?_eq_getElem hi, rfl, .refl, s, rfl, l.rep rv⟩
theorem si_dvals {tg : Expr} (ho : SE X C o fo) (hbase : attributeBase o "values" X.env (eval o X.env) = eval o X.env := by rfl) (hline : (apos.endLine == cpos.line) = true := by rfl) : SI X C tg (.Call (.Attribute o "values" apos) [] [] cpos) (iDVals fo) :=
  pi_weak (pi_values (pe_lk ho) hbase hline) fun σ H R ⟨δ, v, re, eH, h⟩ => ⟨δ, v, re, eH, on_mono (on_bind h) fun d x v1 l1 s1 r1 h1 => by
    cases d with
    | ob i =>
      simp only at h1
      cases r1 with
      | @ob _ _ _ a em =>
        split at h1
        · rename_i kvs q
          obtain ⟨a', em', _, vs, hh, rp⟩ := s1.obj i _ q rfl
          rw [em] at em'
          cases em'
          refine .inl ⟨a, vs, rfl, hh, fun ob => ⟨a, ob, vs, rfl, upd_same, ?_⟩⟩
          obtain ⟨l2, s2⟩ := lockK_ok (ob := ob) s1 q em hh rp
          exact h1 _ ⟨upd v1.G a (.frz ob (.dK vs)), upd v1.H a (.frz ob (.dK vs)), v1.m, v1.st.set i (.fK kvs)⟩ l2 s2 rfl (itOk_vals upd_same (rp.mono l2.g .refl))
        · rename_i kvs q
          obtain ⟨a', ob, vs, em', hh, rp⟩ := s1.fk i _ q
          rw [em] at em'
          cases em'
          exact .inr ⟨a, ob, vs, rfl, s1.sub _ _ hh, h1 _ v1 .refl s1 rfl (itOk_vals hh rp)⟩
        · exact h1.elim
    | _ => exact h1.elim⟩
end
@[simp] theorem v_eDNewK (δ : Sl) (s : Sto) : eDNewK δ s = .ok (.ob s.length) (s ++ [.dK []]) := id rfl
@[simp] theorem v_eDNewT (δ : Sl) (s : Sto) : eDNewT δ s = .ok (.ob s.length) (s ++ [.dT []]) := id rfl
@[simp] theorem v_eDIx (o k : E) (δ : Sl) (s : Sto) : eDIx o k δ s = (o δ s).bind fun x s1 => (k δ s1).bind fun y s2 => match dkO s2 x, keyD y with
  | some kvs, some k => R.ofO (valD kvs k) s2
  | _, _ => .stk := id rfl
@[simp] theorem v_eDGet2 (o k e : E) (δ : Sl) (s : Sto) : eDGet2 o k e δ s = (o δ s).bind fun x s1 => if (dkO s1 x).isSome = true then ((k δ s1).bind fun y s2 => (e δ s2).bind fun z s3 => match dkO s3 x, keyD y with
  | some kvs, some k => .ok ((valD kvs k).getD z) s3
  | _, _ => .stk) else .stk := id rfl
@[simp] theorem v_eDGetT (o : E) (ks : As) (e : E) (δ : Sl) (s : Sto) : eDGetT o ks e δ s = (o δ s).bind fun x s1 => if (dtO s1 x).isSome = true then ((ks δ s1).bind fun ys s2 => if ys.length ≤ sizeLine then (e δ s2).bind fun z s3 => (match dtO s3 x, keysD ys with
  | some kvs, some k => .ok ((valD kvs k).getD z) s3
  | _, _ => .stk) else .stk) else .stk := id rfl
@[simp] theorem v_sDPutK (o k e : E) (δ : Sl) (s : Sto) : sDPutK o k e δ s = sBind (e δ s) δ fun z s1 => sBind (o δ s1) δ fun x s2 => sBind (k δ s2) δ fun y s3 => match x, keyD y with
  | .ob i, some k => (match s3[i]? with
    | some (.dK kvs) => if kvs.length < sizeLine then .nx δ (s3.set i (.dK (putKD kvs k z))) else .stk
    | _ => .stk)
  | _, _ => .stk := id rfl
@[simp] theorem v_sDPutT (o : E) (ks : As) (e : E) (δ : Sl) (s : Sto) : sDPutT o ks e δ s = sBind (e δ s) δ fun z s1 => sBind (o δ s1) δ fun x s2 => sBind (ks δ s2) δ fun ys s3 => if ys.length ≤ sizeLine then (match x, keysD ys with
  | .ob i, some k => (match s3[i]? with
    | some (.dT kvs) => if kvs.length < sizeLine then .nx δ (s3.set i (.dT (putKD kvs k z))) else .stk
    | _ => .stk)
  | _, _ => .stk) else .stk := id rfl
@[simp] theorem v_iDVals (o : E) (δ : Sl) (s : Sto) : iDVals o δ s = (o δ s).bind fun x s1 => match x with
  | .ob i => match s1[i]? with
    | some (.dK kvs) => .ok (kvs.map (·.2)) (s1.set i (.fK kvs))
    | some (.fK kvs) => .ok (kvs.map (·.2)) s1
    | _ => .stk
  | _ => .stk := id rfl
@[simp] theorem v_eAt (cl : String → Bool) (f : Str) (o : E) (δ : Sl) (s : Sto) : eAt cl f o δ s = (o δ s).bind fun x s1 => match inO s1 x with
  | some (c, fs) => if cl c = true then R.ofO (fs.lookup f) s1 else .stk
  | none => .stk := id rfl
@[simp] theorem v_sSetAt (cl : String → Bool) (f : Str) (o e : E) (δ : Sl) (s : Sto) : sSetAt cl f o e δ s = sBind (e δ s) δ fun y s1 => sBind (o δ s1) δ fun x s2 => match x, inO s2 x with
  | .ob i, some (c, fs) => if cl c = true ∧ fs.length < 1000 then .nx δ (s2.set i (.ins c (putD f y fs))) else .stk
  | _, _ => .stk := id rfl
@[simp] theorem v_eMeth (M : Mt) (m : Str) (o : E) (a : As) (δ : Sl) (s : Sto) : eMeth M m o a δ s = (o δ s).bind fun x s1 => match inO s1 x with
  | some (c, fs) => if (fs.lookup m).isNone = true then (match M c with
    | some F => (a δ s1).bind fun ds s2 => F (x :: ds) s2
    | none => .stk) else .stk
  | none => .stk := id rfl
@[simp] theorem v_eMake (c : String) (F : List D → Sto → R D) (a : As) (δ : Sl) (s : Sto) : eMake c F a δ s = (a δ s).bind fun ds s1 => (F (.ob s1.length :: ds) (s1 ++ [.ins c []])).bind fun r s2 => match r with
  | .non => .ok (.ob s1.length) s2
  | _ => .stk := id rfl
end Gs

/-! GSk: xs[a:b:c] of a list. -/
namespace L2
open PySem PySem.Spec PyProof.Rows
/-- the places that are taken -/
def stepIx (n : Nat) (lo hi st : Option Int) : List Nat := sliceRange (sliceBounds lo hi st n).1 (sliceBounds lo hi st n).2.1 (sliceBounds lo hi st n).2.2
def pickIx {α : Type} (xs : List α) (ix : List Nat) : List α := ix.filterMap fun i => xs[i]?
theorem pickIx_vals {xs : List V} {us : List Value} (r : Vals xs us) : ∀ ix : List Nat, Vals (pickIx xs ix) (pickIx us ix)
  | [] => .nil
  | i :: ix => by
    have ih := pickIx_vals r ix
    unfold pickIx at ih ⊢
    rw [List.filterMap_cons, List.filterMap_cons]
    cases e : xs[i]? with
    | none =>
      have e2 := r.none_of e
      rw [e2]
      exact ih
    | some v =>
      obtain ⟨u, e2, rv⟩ := r.get e
      rw [e2]
      exact .cons rv ih
theorem pickIx_len {α : Type} (xs : List α) : ∀ ix : List Nat, (pickIx xs ix).length ≤ ix.length := fun ix => List.length_filterMap_le _ _
def tSlS (K : PySem.W.Frag) (te : TE) (tl th ts : TO) : TE := fun σ H Q => te σ H fun x H1 => tl σ H1 fun l H2 => th σ H2 fun u H3 => ts σ H3 fun st H4 => st ≠ some 0 ∧ ∃ a xs, x = .ref a ∧ SqL K H4 a xs ∧ (pickIx xs (stepIx xs.length l u st)).length ≤ sizeLine ∧
  ∀ p, H4 p = none → Q (.ref p) (upd H4 p (.lst (pickIx xs (stepIx xs.length l u st))))
section
variable {X : Cx}
theorem pe_slS {e : Expr} {lo hi st : Option Expr} {te : TE} {tl th ts : TO} {p3 pos : Pos} (he : PE X e te) (hl : PO X lo tl) (hh : PO X hi th) (hs : PO X st ts) (hm : ∀ ov iv, subscripted (.Slice lo hi st p3) false ov iv = operate [ov, iv] (getItem ov iv) := by intro _ _; with_unfolding_all rfl) : PE X (.Subscript e (.Slice lo hi st p3) pos) (tSlS X.K te tl th ts) := by
  refine ⟨fun pins s σ H Q I h => ?_⟩
  refine Subscript_ (thn (he.run pins s σ H _ I h) fun v s1 ⟨x, H1, I1, r1, q1⟩ => ?_)
  refine wpAny_Slice (thn (hl.run pins s1 σ H1 _ I1 q1) fun vl s2 ⟨l, H2, I2, pl, q2⟩ => thn (hh.run pins s2 σ H2 _ I2 q2) fun vu s3 ⟨u, H3, I3, pu, q3⟩ => thn (hs.run pins s3 σ H3 _ I3 q3) fun vs s4 ⟨o, H4, I4, ps, q4⟩ => ?_)
  have I5 : Inv X pins σ H4 { s4 with heap := s4.heap.push { cls := .type "slice", data := .fields #[vl, vu, vs] } } := I4.kept (t' := s4.toks) fun b ob q => Heap.get?_push_of_some _ q
  obtain ⟨h0, a, xs, ex, hx, hz9, q⟩ := q4
  subst ex
  cases r1
  obtain ⟨its, r, ht, hz⟩ := I5.list hx
  have hlen := r.length
  refine tail_any (ops := [.ref a, .ref s4.heap.objs.size]) ht.isList.typeIs (PySem.slot_list_getitem.lookup) ?_ (hm _ _)
  refine wpAny_getItem_list_slice ht.isList (Heap.IsSliceOf.new _ vl vu vs) pl pu ps h0 ?_ (by rw [List.size_toArray]; omega)
  have e9 : slicePick its.toArray l u o = (pickIx its (stepIx its.length l u o)).toArray := by
    unfold slicePick pickIx stepIx
    simp
  rw [e9, ← hlen]
  refine ⟨.ref _, _, I5.laid (t' := s4.toks) (o := .lst (pickIx xs (stepIx xs.length l u o))) (fun b ob q => Heap.get?_push_of_some _ q) (Nat.le_refl _) ?_, rfl, q _ (I5.hok.fresh (Nat.le_refl _))⟩
  exact ⟨hz9, _, 0, pickIx_vals r _, Heap.get?_push_size _ rfl⟩
end
end L2
namespace Gs
open PySem L2
def eSlS (a : E) (lo hi st : Os) : E := fun δ s => (a δ s).bind fun x s1 => (lo δ s1).bind fun l s2 => (hi δ s2).bind fun h s3 => (st δ s3).bind fun c s4 => match rsv s4 x with
  | .lst xs => if c ≠ some 0 ∧ (pickIx xs (stepIx xs.length l h c)).length ≤ sizeLine then .ok (.lst (pickIx xs (stepIx xs.length l h c))) s4 else .stk
  | _ => .stk
theorem RepL.pick {K : PySem.W.Frag} {ct : String → Addr} {G : Hp} {m : Nat → Option Addr} {ds : List D} {vs : List V} (r : RepL K ct G m ds vs) : ∀ ix : List Nat, RepL K ct G m (pickIx ds ix) (pickIx vs ix)
  | [] => .nil
  | i :: ix => by
    have ih := RepL.pick r ix
    have hl := r.length
    unfold pickIx at ih ⊢
    rw [List.filterMap_cons, List.filterMap_cons]
    cases e : ds[i]? with
    | none =>
      have e2 : vs[i]? = none := by rw [List.getElem?_eq_none_iff] at e ⊢; omega
      rw [e2]
      exact ih
    | some d =>
      obtain ⟨v, e2, rv⟩ := r.get e
      rw [e2]
      exact .cons rv ih
theorem RepL.pick_len {K : PySem.W.Frag} {ct : String → Addr} {G : Hp} {m : Nat → Option Addr} {ds : List D} {vs : List V} (r : RepL K ct G m ds vs) (ix : List Nat) : (pickIx ds ix).length = (pickIx vs ix).length := (r.pick ix).length
section
variable {X : Cx} {C : Cc} {a : Expr} {fa : E} {pos p2 : Pos}
theorem se_slS {lo hi st : Option Expr} {fl fh fs : Os} (ha : SE X C a fa) (hl : SO X C lo fl) (hh : SO X C hi fh) (hs : SO X C st fs) (hm : ∀ ov iv, subscripted (.Slice lo hi st p2) false ov iv = operate [ov, iv] (getItem ov iv) := by intro _ _; with_unfolding_all rfl) : SE X C (.Subscript a (.Slice lo hi st p2) pos) (eSlS fa fl fh fs) :=
  pe_weak (pe_slS ha hl hh hs hm) fun σ H Q ⟨δ, v, re, eH, h⟩ => by
    refine ⟨δ, v, re, eH, on_mono (on_bind h) fun d x v1 l1 s1 r1 h1 => ⟨δ, v1, re.step l1 s1, rfl, on_mono (on_bind h1) fun l y v2 l2 s2 e2 h2 => ?_⟩⟩
    cases e2
    refine ⟨δ, v2, (re.step l1 s1).step l2 s2, rfl, on_mono (on_bind h2) fun u y v3 l3 s3 e3 h3 => ?_⟩
    cases e3
    refine ⟨δ, v3, ((re.step l1 s1).step l2 s2).step l3 s3, rfl, on_mono (on_bind h3) fun c y v4 l4 s4 e4 h4 => ?_⟩
    cases e4
    have t := (((l2.trans l3).trans l4).rep r1).top s4
    cases z : rsv v4.st d with
    | lst xs =>
      rw [z] at h4 t
      cases t with
      | @lst a vs _ p q =>
        simp only at h4
        split at h4
        · rename_i hz
          refine ⟨hz.1, a, vs, rfl, p, ?_, fun cc hc => ?_⟩
          · rw [← q.length, ← q.pick_len]; exact hz.2
          · obtain ⟨l9, s9⟩ := new_ok (o := .lst (pickIx vs (stepIx vs.length l u c))) s4 hc
            refine h4 (.ref cc) _ l9 s9 rfl (.lst (SqL.of upd_same) ?_)
            rw [q.length]
            exact l9.repl (q.pick _)
        · exact h4.elim
    | _ => rw [z] at h4; exact h4.elim
end
@[simp] theorem v_eSlS (a : E) (lo hi st : Os) (δ : Sl) (s : Sto) : eSlS a lo hi st δ s = (a δ s).bind fun x s1 => (lo δ s1).bind fun l s2 => (hi δ s2).bind fun h s3 => (st δ s3).bind fun c s4 => match rsv s4 x with
  | .lst xs => if c ≠ some 0 ∧ (pickIx xs (stepIx xs.length l h c)).length ≤ sizeLine then .ok (.lst (pickIx xs (stepIx xs.length l h c))) s4 else .stk
  | _ => .stk := id rfl
theorem pickIx_map {α β : Type} (f : α → β) (xs : List α) : ∀ ix : List Nat, pickIx (xs.map f) ix = (pickIx xs ix).map f
  | [] => rfl
  | i :: ix => by
    have ih := pickIx_map f xs ix
    unfold pickIx at ih ⊢
    rw [List.filterMap_cons, List.filterMap_cons, List.getElem?_map]
    cases xs[i]? with
    | none => exact ih
    | some v => simp only [Option.map_some, List.map_cons, ih]
end Gs

/-! GSm: sum of a list or a tuple. -/
namespace Gs
open PySem PySem.Spec PyProof.Rows L2
section
variable {prog : Program} {w : World} {A : Around} {E : Value → Shared → Prop} {s : Shared} {l : Addr} {its : List Value} {ns : List Int} {Q : Value → Shared → Prop}
theorem pre_sum (ns : List Int) : ∀ j, preSum (fun i => ns.getD i 0) j = (ns.take j).sum
  | 0 => rfl
  | j + 1 => by
    show preSum _ j + ns.getD j 0 = _
    rw [pre_sum ns j, List.take_add_one]
    cases h : ns[j]? with
    | none => simp [List.getD, h]
    | some x => simp [List.getD, h, List.sum_append]
theorem ints_at {its : List Value} {ns : List Int} (r : IntsAre its ns) : its.length = ns.length ∧ ∀ (i : Nat) (v : Value), its[i]? = some v → ∃ t, v = Value.int (ns.getD i 0) t := by
  induction r with
  | nil => exact ⟨rfl, fun i v h => nomatch h⟩
  | cons n t _ ih =>
    obtain ⟨h1, h2⟩ := ih
    refine ⟨by simp [h1], fun i v hi => ?_⟩
    cases i with
    | zero => simp at hi; exact ⟨_, hi.symm⟩
    | succ i =>
      obtain ⟨t, e⟩ := h2 i v (by simpa using hi)
      exact ⟨t, by simpa [List.getD] using e⟩
theorem sum_tup (hh : A.handled = none) (hl : IsTup s.heap l its.toArray) (hi : IntsAre its ns)
    (h : ∀ h' tk t', (∀ b o, s.heap.get? b = some o → h'.get? b = some o) → Q (.int ns.sum t') { s with heap := h', toks := tk }) : wpAny (model prog w) A (call (.builtin "sum") [.ref l]) Q E s := by
  obtain ⟨hlen, hat⟩ := ints_at hi
  have hlt : l < s.heap.objs.size := by obtain ⟨o, e, _⟩ := hl; exact Heap.lt_size e
  have ht : s.heap.IsTuple l its.toArray := hl
  refine call_sum_walkG (wpAny_pyIter_tuple ht ?_)
  refine ⟨_, _, _, _, _, _, fun i => ns.getD i 0, rfl, Walks.tuple (A := A.in1) hh _ l (Nat.ne_of_lt hlt) its.toArray, ⟨⟨_, Heap.get?_push_size _ rfl, rfl, rfl⟩, ?_⟩, fun b hb => ?_, fun i v hv => hat i v (by simpa using hv), fun h' tk t' hk => ?_⟩
  · obtain ⟨o, ho, r⟩ := ht
    exact ⟨o, Heap.get?_push_of_some _ ho, r⟩
  · show b < (s.heap.push _).objs.size
    rw [Heap.size_push]
    simp only [List.mem_cons, List.not_mem_nil, or_false] at hb
    rcases hb with rfl | rfl
    · exact Nat.lt_succ_self _
    · exact Nat.lt_succ_of_lt hlt
  · have e := pre_sum ns its.toArray.size
    rw [List.size_toArray, hlen, List.take_length] at e
    rw [List.size_toArray, hlen, e]
    refine h h' tk t' fun b o hb => hk b o ?_ (Heap.get?_push_of_some _ hb)
    simp only [List.mem_cons, List.not_mem_nil, or_false]
    exact Nat.ne_of_lt (Heap.lt_size hb)
end
section
variable {X : Cx}
theorem cr_sumT (hc : X.calm = true) : CallR X (.builtin "sum") (fun vs H Q => ∃ (a : Addr) (ns : List Int), vs = [V.ref a] ∧ SqT X.K H a (ns.map V.int) ∧ Q (.int ns.sum) H) := by
  intro pins s σ H vs us Q I r h
  obtain ⟨a, ns, rfl, hs, q⟩ := h
  obtain ⟨its, rv, hl, _⟩ := I.tuple hs
  rw [Vals.ref1 r]
  exact sum_tup (I.ok.hd hc) hl rv.ints fun h' tk t' hk => ⟨.int _, H, I.kept hk, ⟨_, rfl⟩, q⟩
def gSumA : BA
  | [.lst xs] => (intsOf xs).map fun ns => .int ns.sum
  | [.tup xs] => (intsOf xs).map fun ns => .int ns.sum
  | _ => none
theorem b_sumA {ct : String → Addr} (hc : X.calm = true) : CallR X (.builtin "sum") (rDA X.K ct gSumA) := by
  intro pins s σ H xs us Q I r h
  obtain ⟨v0, ds, d, rfl, sr, e, rl, h⟩ := h
  unfold gSumA at e
  split at e
  · rename_i ys
    cases q1 : intsOf ys with
    | none => rw [q1] at e; exact nomatch e
    | some ns =>
      rw [q1] at e
      simp only [Option.map_some, Option.some.injEq] at e
      subst e
      have e2 := intsOf_eq q1
      subst e2
      cases rl with
      | cons r1 r2 =>
        cases r2
        cases r1 with
        | lst p q =>
          have e3 := RepL.of_ints q
          subst e3
          exact cr_sum hc pins s σ _ _ us Q I r ⟨_, ns, rfl, p, h _ v0 .refl sr rfl (.int _)⟩
  · rename_i ys
    cases q1 : intsOf ys with
    | none => rw [q1] at e; exact nomatch e
    | some ns =>
      rw [q1] at e
      simp only [Option.map_some, Option.some.injEq] at e
      subst e
      have e2 := intsOf_eq q1
      subst e2
      cases rl with
      | cons r1 r2 =>
        cases r2
        cases r1 with
        | tup p q =>
          have e3 := RepL.of_ints q
          subst e3
          exact cr_sumT hc pins s σ _ _ us Q I r ⟨_, ns, rfl, sqt_mono sr.sub p, h _ v0 .refl sr rfl (.int _)⟩
  · exact nomatch e
end
@[simp] theorem v_sumA_lst (xs : List D) : gSumA [.lst xs] = (intsOf xs).map fun ns => .int ns.sum := id rfl
@[simp] theorem v_sumA_tup (xs : List D) : gSumA [.tup xs] = (intsOf xs).map fun ns => .int ns.sum := id rfl
end Gs

/-! GXf: exceptions with fields: made, caught, read. -/
namespace L2
open PySem PySem.Spec PyProof.Rows
section
variable {X : Cx} {e : Expr} {es : List Expr} {ta : TA} {p1 p2 pos : Pos}
/-- B.__init__(self, ..), B an own class without an __init__ of its own -/
theorem pe_ceinit {x : Str} {B : Addr} {pl : Sem Bool} (hg : Gl X x) (hm : X.mg x = some (.ref B)) (ga : PySem.W.specialIn X.K (.ref B) "__getattribute__" = some (some (.builtin "type.__getattribute__"))) (hT : PySem.W.typeIn X.K (.ref B) = some (.type "type"))
    (rd : PySem.W.readsIn X.K B (.type "type") = true) (vV : PySem.W.findCls X.K (.ref B) (.type "type") "__init__" = some (.val (.builtin "ValueError.__init__"))) (ha : PA X (e :: es) ta)
    (hc : eval (.Call (.Attribute (.Name x p1) "__init__" p2) (e :: es) [] pos) X.env = (do
      let ov ← eval (.Name x p1) X.env
      standAt p2.atName
      let (f, first) ← holding [ov] (getMethod ov "__init__" pl)
      callWith pos f first (backTo pos (starEach (e :: es) X.env)) (backToKw pos (keywordEach [] X.env))) := by rfl) (hdb : (x == ("__debug__" : Str)) = false := by decide)
    (he : starEach (e :: es) X.env = (false, eval e X.env) :: starEach es X.env := by rfl) (hpl : (backTo pos (starEach es X.env)).any (·.1) = false := by rfl) :
    PE X (.Call (.Attribute (.Name x p1) "__init__" p2) (e :: es) [] pos) (tVeI X.K ta) := by
  refine ⟨fun pins s σ H Q I h => ?_⟩
  refine PySem.W.methodCall_KW (ld_glob I hg hm ?_ hdb) hc
  obtain ⟨m, fr⟩ := I.fr
  refine PySem.W.method_of_cls fr I.ok.mod.kin ga (PySem.W.cls_val fr I.ok.mod.kin hT rd vV (by decide +kernel) ?_)
  show wpAny _ _ (callWith pos (Value.builtin "ValueError.__init__") [] (backTo pos (starEach (e :: es) X.env)) []) _ _ _
  refine PyProof.Rows.callWith_method1 (thn (ha.run pos pins _ σ H _ (I.tok _) h) fun us s1 ⟨vs, H1, I1, r1, a, C, ws, ev, hl, T, ea, q⟩ => ?_) he hpl
  subst ev
  cases r1 with
  | @cons _ u0 _ ur ra rw' =>
    obtain rfl : u0 = Value.ref a := ra
    have hlen : ur.length ≤ sizeLine := by
      rw [← Paired.length rw', sizeLine_eq]
      omega
    exact oinit_ok T I1 ea hlen fun s' J => ⟨.non, H1, J, rfl, q⟩
end
end L2
namespace Gs
open PySem L2
/-- an __init__ that keeps its fields ns (the last one stored first in the list) -/
def spXI (K : PySem.W.Frag) (C : Addr) (ns : List Str) : Sp := fun vs H Q E => ∃ (a : Addr) (w : V) (ys : List V), vs = .ref a :: w :: ys ∧ ys.length = ns.length ∧ OexC K C ∧ H a = some (exo a C none) ∧
  ∀ (H' : Hp) (dx : Addr), H dx = none → dx ≠ a → H' a = some (exo a C (some dx)) → H' dx = some (exd dx (ns.zip ys).reverse) → (∀ b, b ≠ a → b ≠ dx → H' b = H b) → Q .non H'
/-- an own exception class with fields -/
structure XF (K : PySem.W.Frag) (mg : Str → Option Value) (ct : String → Addr) (c : String) : Prop where
  g : mg (Str.ofString c) = some (.ref (ct c))
  ox : OexC K (ct c)
  fi : ∃ fI, PySem.W.findIn K (.ref (ct c)) "__init__" = some (some (.ref fI)) ∧ PySem.W.typeIn K (.ref fI) = some (.type "function")
def sRaiseF (c : String) (ns : List Str) (a : As) : S := fun δ s => sBind (a δ s) δ fun ds s1 => match ds with
  | _ :: ys => if ys.length = ns.length ∧ ns.length ≤ 10 ∧ ns ≠ [] then .exc ⟨c, (ns.zip ys).reverse⟩ δ s1 else .stk
  | [] => .stk
theorem repP_rev {κ : Type} {K : PySem.W.Frag} {ct : String → Addr} {G : Hp} {m : Nat → Option Addr} {ds : List (κ × D)} {vs : List (κ × V)} (r : RepP K ct G m ds vs) : RepP K ct G m ds.reverse vs.reverse := by
  induction r with
  | nil => exact .nil
  | cons h _ ih =>
    rw [List.reverse_cons, List.reverse_cons]
    exact ih.append (.cons h .nil)
section
variable {X : Cx} {C : Cc}
theorem ss_raiseF {c : String} {cx : Str} {fI : Addr} {fd : FuncData} {ps ns : List Str} {k : Nat} {e : Expr} {es : List Expr} {fa : As} {p pos1 pos : Pos} (hcx : Str.ofString c = cx) (hc : X.calm = true) (tk : Takes X C.W) (T : OexC X.K (C.ct c)) (iC : PySem.W.findIn X.K (.ref (C.ct c)) "__init__" = some (some (.ref fI)))
    (tI : PySem.W.typeIn X.K (.ref fI) = some (.type "function")) (F1 : FnOk X.prog X.w X.K X.mg X.base (L2.CX X.prog X.w) k fI fd ps (spXI X.K (C.ct c) ns)) (hr : Room (k + 1) X.A) (hb : Binds X.K fd ps []) (hg : Gl X cx) (hm : X.mg cx = some (.ref (C.ct c)))
    (ha : SA X C (e :: es) fa) (hdb : (cx == ("__debug__" : Str)) = false := by decide) (he : starEach (e :: es) X.env = (false, eval e X.env) :: starEach es X.env := by rfl) (hpl : (backTo pos1 (starEach es X.env)).any (·.1) = false := by rfl) :
    SS X C (.Raise (some (.Call (.Name cx p) (e :: es) [] pos1)) none pos) (sRaiseF c ns fa) := by
  refine ps_weak (ps_raise hc tk (pmk_oex (CX := L2.CX X.prog X.w) T iC tI F1 hr hb .nil (passes_call (E := fun _ _ _ => False) tk (fun _ _ _ _ z => z.elim)) hg hm ha hdb he hpl)) fun Dn σ H ⟨δ, v, re, eH, h⟩ => ?_
  refine ⟨δ, v, re, eH, ?_⟩
  refine on_mono (onS_R re h) fun ds vs v1 l1 s1 r1 h1 => ?_
  cases r1 with
  | nil => exact h1.elim
  | @cons _ _ d0 w ys us rw ry =>
    simp only at h1
    split at h1
    · rename_i hz
      obtain ⟨hz1, hz2, hz3⟩ := hz
      have hl := ry.length
      refine ⟨by simp only [List.length_cons]; omega, fun a na => ⟨a, w, us, by simp, by omega, T, upd_same, fun H' dx hd hda h2 h3 h4 => ⟨rfl, dx, _, h2, h3, ?_, ?_⟩⟩⟩
      · rwa [upd_ne hda] at hd
      · have hd1 : v1.H dx = none := by rwa [upd_ne hda] at hd
        have eH : upd (del H' a) dx (.xd (ns.zip us).reverse) = (v1.new dx (.xd (ns.zip us).reverse)).H := by
          funext b
          show upd (del H' a) dx _ b = upd v1.H dx _ b
          by_cases b1 : b = dx
          · rw [b1, upd_same, upd_same]
          · rw [upd_ne b1, upd_ne b1]
            by_cases b2 : b = a
            · rw [b2, del_same, na]
            · rw [del_ne b2, h4 b b2 b1, upd_ne b2]
        obtain ⟨l2, s2⟩ := new_ok (o := .xd (ns.zip us).reverse) s1 hd1
        rw [eH]
        refine h1 (.ref (C.ct c)) (some dx) σ (v1.new dx (.xd (ns.zip us).reverse)) ((re.step l1 s1).step l2 s2) l2 rfl ⟨rfl, .inr ⟨?_, dx, _, rfl, upd_same, ?_⟩⟩
        · intro z
          have z2 := congrArg List.length z
          simp only [List.length_reverse, List.length_zip, List.length_nil] at z2
          have : 0 < ns.length := List.length_pos_iff.mpr hz3
          omega
        · exact repP_rev (RepP.zip (l2.repl ry))
    · exact h1.elim
end
end Gs

/-! GXs: except suites in which the exception is a thing as others; its fields; isinstance. -/
namespace L2
open PySem PySem.Spec PyProof.Rows
/-- what the clause wishes: its suite runs with the exception told at a -/
def wSu (K : PySem.W.Frag) (c : Value) (i : Nat) (ts : Addr → Value → Option Addr → TS) (Wo : WX) (D : Ends) : WX := fun cls d σ H => ∃ b, PySem.W.exmOne K cls c = some b ∧
  (b = true → ∀ a, H a = none → ts a cls d { nx := fun σ H => D.nx (σ.set i none) H, rt := D.rt, bk := fun σ H => D.bk (σ.set i none) H, ct := fun σ H => D.ct (σ.set i none) H } (σ.set i (some (.ref a))) (upd H a (EvK cls d a))) ∧ (b = false → Wo cls d σ H)
section
variable {X : Cx} {pins : List (Addr × Obj)} {σ : St} {H : Hp} {s : Shared}
theorem Inv.suite0 (I : Inv X pins σ H s) (a : Addr) : Inv (X.suite a (X.pn ++ pins)) [] σ H s :=
  ⟨I.ok.suite _ _, I.os, I.bare, I.base, I.loc, I.cell, I.free, I.freeC, fun p hp => I.pin p (by rw [List.append_nil] at hp; exact hp), I.hok, I.len⟩
theorem Inv.unsuite0 {a : Addr} {pn' : List (Addr × Obj)} (I : Inv (X.suite a (X.pn ++ pins)) pn' σ H s) (ok : X.Ok) : Inv X pins σ H s :=
  ⟨ok, I.os, I.bare, I.base, I.loc, I.cell, I.free, I.freeC, fun p hp => I.pin p (List.mem_append_left _ hp), I.hok, I.len⟩
end
section
variable {X : Cx} {x n : Str} {c : Value} {i : Nat} {body suite : List Stmt} {st₀ : Stmt} {np pos pos' : Pos} {tb : WX → TS} {ts : Addr → Value → Option Addr → TS} {Wo : WX}
theorem ps_try_suite (hs : X.stack = X.env :: X.outer) (hf : X.env.frame = some X.env.locals) (hN : X.N.Nodup) (hi : X.N[i]? = some n) (hln : X.env.kindOf n = some .local) (hx0 : X.ex = []) (hc : Names X x c) (tk : Takes X Wo)
    (hb : ∀ (W : WX) (pn : List (Addr × Obj)) (xe : Value → Shared → Prop), Takes (X.tr pn xe) W → PassesOwn (model X.prog X.w) X.A X.env xe → PSs (X.tr pn xe) body (tb W))
    (hsu : ∀ (a : Addr) (cls : Value) (d : Option Addr) (pn : List (Addr × Obj)), PSs (X.suite a pn) (st₀ :: suite) (ts a cls d)) :
    PS X (.Try body [.ExceptHandler (some (.Name x np)) (some n) (st₀ :: suite) pos'] [] [] pos) (fun D σ H => tb (wSu X.K c i ts Wo D) D σ H) := by
  refine ⟨fun pins s σ H D I0 hpre => ?_⟩
  have okX := I0.ok
  have frames : X.A.frames = some (X.env :: X.outer) := by rw [okX.frames, hs]
  refine wpAny_Try_except ?_
  have bodyRun := (hb (wSu X.K c i ts Wo D) (X.pn ++ pins) (fun e z1 => wpAny (model X.prog X.w) X.A (noteFrame e X.env) (fun _ z2 => wpAny (model X.prog X.w) X.A (setFlight e none)
      (fun _ z3 => wpAny (model X.prog X.w) X.A (handleBy e X.env [.ExceptHandler (some (.Name x np)) (some n) (st₀ :: suite) pos']) (SP X pins D) X.xe z3) X.xe z2) X.xe z1) (fun u z xx => ?_) PassesOwn.looking).run [] s σ H D (I0.toTry _) hpre
  · refine wpAny_mono bodyRun (fun fl z1 hsp => ?_) (fun _ _ he => he)
    cases fl with
    | next =>
      obtain ⟨σ1, H1, J1, q1⟩ := hsp
      exact wpAny_execs_nil ⟨σ1, H1, J1.ofTry okX, q1⟩
    | brk =>
      obtain ⟨σ1, H1, J1, q1⟩ := hsp
      exact ⟨σ1, H1, J1.ofTry okX, q1⟩
    | cont =>
      obtain ⟨σ1, H1, J1, q1⟩ := hsp
      exact ⟨σ1, H1, J1.ofTry okX, q1⟩
    | ret u =>
      obtain ⟨v1, σ1, H1, J1, r1, q1⟩ := hsp
      exact ⟨v1, σ1, H1, J1.ofTry okX, r1, q1⟩
  · obtain ⟨a, B, sI, pins', σc, Hc, cls, d, rfl, Jt, nb, up, sky, na, osE, ag, b, hb1, hyes, hno⟩ := xx
    have J : Inv X pins σc Hc sI := Jt.ofTry okX
    have skyE : Sky B (X.env :: X.outer) a (Zc cls d) X.env.locals z.heap := by rw [← hs]; exact sky
    have nB : B.get? a = none := by rcases skyE with q | q | q <;> exact q.2.1
    show wpAny (model X.prog X.w) X.A (noteFrame (.ref a) X.env) _ _ _
    refine Sky.land Zc.steady frames hf skyE fun hp3 fly3 up3 => ?_
    have K3 : Inv X pins σc Hc { z with heap := hp3 } := J.landed nb fly3.1 (up.trans up3) osE ag
    obtain ⟨oe3, vs3, g3, zc3, d3⟩ := fly3.there
    have notFrame : a ∉ frs (X.env :: X.outer) := fun hm => by
      obtain ⟨_, o', e', hnf⟩ := fly3.2.2.1.mem hm
      rw [g3] at e'
      cases e'
      exact hnf _ d3
    have nL : a ≠ X.env.locals := fun w => notFrame (List.mem_filterMap.mpr ⟨X.env, List.mem_cons_self, by rw [hf, w]⟩)
    have nF : a ∉ X.fs := fun hm => by
      obtain ⟨e, he, q⟩ := List.mem_filterMap.mp hm
      exact notFrame (List.mem_filterMap.mpr ⟨e, List.mem_cons_of_mem _ he, q⟩)
    have nI : sI.heap.get? a = none := by
      cases w : sI.heap.get? a with
      | none => rfl
      | some ob =>
        have w2 := nb a ob w (by rw [hs]; exact notFrame)
        rw [nB] at w2
        cases w2
    have n0 : X.s_0.heap.get? a = none := by
      cases w : X.s_0.heap.get? a with
      | none => rfl
      | some ob =>
        obtain ⟨o', w2⟩ := J.base.there a ob w (by rw [hx0]; simp)
        rw [nI] at w2
        cases w2
    have npin : ∀ p ∈ X.pn ++ pins, p.1 ≠ a := fun p hp w => by
      have w2 := (J.pin p hp).1
      rw [w, nI] at w2
      cases w2
    refine wpAny_handleBy_cons (codeAny_handlers_test ?_) (by intro q; cases q)
    have LT : PySem.W.Looks (model X.prog X.w) hp3 (typeOf (.ref a)) cls := fun A Q E s k q => wpAny_typeOf_ref (k _ _ g3) (by rw [zc3.1]; exact q)
    have LM := PySem.W.exm_one (M := model X.prog X.w) (K3.kIn) LT hb1
    have S3 := K3.suite g3 d3 na nL nF
    have clsNamed : ∀ {Q : Value → Shared → Prop} {E : Value → Shared → Prop}, Q c { z with heap := hp3 } → wpAny (model X.prog X.w) (X.A.mark (some (.ref a))) (eval (.Name x np) X.env) Q E { z with heap := hp3 } := fun {Q E} q => by
      obtain ⟨hgl, hdbg, hm | ⟨hm, hv, hnn⟩⟩ := hc
      · exact ld_glob (X := X.suite a ((a, oe3) :: (X.pn ++ pins))) S3 hgl hm q hdbg
      · exact ld_blt (X := X.suite a ((a, oe3) :: (X.pn ++ pins))) S3 hgl hm hv q hnn hdbg
    refine clsNamed (LM.here ?_)
    cases b with
    | false =>
      show wpAny _ X.A (handleBy (.ref a) X.env []) _ _ _
      refine wpAny_handleBy_nil ?_
      obtain ⟨k1, k2, k3, oe, vs, T, oT, tsl, he, hz, hd, h1, hr⟩ := id fly3
      unfold PySem.passOn
      refine wpAny_bind (wpAny_field he hd h1 ?_)
      rw [if_neg (show ¬ ((Value.ref T == Value.none) = true) from by simp)]
      have fin : wpAny (model X.prog X.w) X.A (setFlight (.ref a) X.env.frame) (fun _ z4 => wpAny (model X.prog X.w) X.A (throw (.ref a) : Sem Flow) (SP X pins D) X.xe z4) X.xe { z with heap := hp3 } := by
        rw [hf]
        refine HandSPX.setFlight_upZ fly3 fun h4 hh4 up4 => wpAny_throw (tk _ _ ?_)
        exact ⟨a, B, sI, pins, σc, Hc, cls, d, rfl, J, nb, (up.trans up3).trans up4, .inr (.inr (by rw [hs]; exact hh4)), na, osE, ag, hno rfl⟩
      first
        | exact wpAny_bind (wpAny_pure (wpAny_bind fin))
        | exact wpAny_bind fin
    | true =>
      refine codeAny_handlers_suite_as ?_
      refine HandSPX.lands_againZ fly3 fun hp4 fly4 up4 => ?_
      have K4 : Inv X pins σc Hc { z with heap := hp4 } := J.landed nb fly4.1 ((up.trans up3).trans up4) osE ag
      obtain ⟨oe4, vs4, g4, zc4, d4⟩ := fly4.there
      have T4 := K4.track g4 d4 na n0 nL npin (evK_ok g4 zc4 d4)
      have S4 := T4.suite0 a
      refine store_ok (X := X.suite a (X.pn ++ pins)) (v := .ref a) S4 hN hi (.inl hln) rfl (fun z5 S5 => ?_) (.inr hln)
      have run := (hsu a cls d (X.pn ++ pins)).run [] z5 _ (upd Hc a (EvK cls d a)) _ S5 (hyes rfl a na)
      refine wpAny_mono run (fun fl z6 hsp => ?_) (fun _ _ w => False.elim w)
      have leave : ∀ {σ6 : St} {H6 : Hp} {Q : Shared → Prop}, Inv (X.suite a (X.pn ++ pins)) [] σ6 H6 z6 → (∀ z7, Inv X pins (σ6.set i none) H6 z7 → Q z7) →
          wpAny (model X.prog X.w) X.A (do bindName X.env n .none; unbindBehindTheSuite X.env n pos') (fun _ z7 => Q z7) X.xe z6 := fun {σ6 H6 Q} S6 hq => gone_ok (S6.unsuite0 okX) hN hi hln hq
      cases fl with
      | next =>
        obtain ⟨σ6, H6, S6, q6⟩ := hsp
        exact leave S6 fun z7 J7 => ⟨_, _, J7, q6⟩
      | brk =>
        obtain ⟨σ6, H6, S6, q6⟩ := hsp
        exact leave S6 fun z7 J7 => ⟨_, _, J7, q6⟩
      | cont =>
        obtain ⟨σ6, H6, S6, q6⟩ := hsp
        exact leave S6 fun z7 J7 => ⟨_, _, J7, q6⟩
      | ret u =>
        obtain ⟨v6, σ6, H6, S6, r6, q6⟩ := hsp
        exact leave S6 fun z7 J7 => ⟨_, _, _, J7, r6, q6⟩
end
end L2
namespace Gs
open PySem L2
def evD (e : Ex) : D := .ev e.cls (e.fs.map (·.1)) (e.fs.map (·.2))
theorem repx_ev {K : PySem.W.Frag} {ct : String → Addr} {v : Vw} {e : Ex} {cls : Value} {dd : Option Addr} {a : Addr} (sr : SR K ct v) (rx : RepX K ct v e cls dd) (na : v.H a = none) : Rep K ct (v.new a (EvO cls dd a)).G v.m (evD e) (.ref a) := by
  obtain ⟨hc, hf⟩ := rx
  have ga : v.G a = none := sr.free na
  rcases hf with ⟨h1, h2⟩ | ⟨h1, d, fs, h2, h3, h4⟩
  · subst h2
    have : evD e = .ev e.cls [] [] := by unfold evD; rw [h1]; rfl
    rw [this]
    exact .ev0 (by rw [← hc]; exact upd_same)
  · subst h2
    have hd : d ≠ a := fun z => by rw [z, ga] at h3; cases h3
    have k := h4.keys
    refine .ev (d := d) (vs := fs.map (·.2)) (fun z => h1 (List.map_eq_nil_iff.mp z)) (by rw [← hc]; exact upd_same) ?_ (by simp) ?_
    · show upd v.G a _ d = _
      rw [upd_ne hd, h3, k, zip_unzip]
    · exact (h4.vals).mono (same_new ga _) .refl
/-- try: body except C as e: suite -/
def sTryS (t : String → Option Bool) (i : Nat) (fb fs : S) : S := fun δ s => match fb δ s with
  | .exc e δ' s' => (match t e.cls with
    | some true => (match fs (δ'.set i (some (evD e))) s' with
      | .nx δ2 s2 => .nx (δ2.set i none) s2
      | .bk δ2 s2 => .bk (δ2.set i none) s2
      | .ct δ2 s2 => .ct (δ2.set i none) s2
      | .rt d s2 => .rt d s2
      | _ => .stk)
    | some false => .exc e δ' s'
    | none => .stk)
  | r => r
section
variable {X : Cx} {C : Cc}
theorem ss_try_suite {x n : Str} {c : Value} {t : String → Option Bool} {i : Nat} {body suite : List Stmt} {b₀ : Stmt} {np pos' pos : Pos} {fb fs : S} (hs : X.stack = X.env :: X.outer) (hf : X.env.frame = some X.env.locals) (hN : X.N.Nodup) (hi : X.N[i]? = some n) (hln : X.env.kindOf n = some .local) (hx0 : X.ex = [])
    (hc : Names X x c) (tk : Takes X C.W) (ht : ∀ s b, t s = some b → PySem.W.exmOne X.K (.ref (C.ct s)) c = some b)
    (hb : ∀ (W : WX) (pn : List (Addr × Obj)) (xe : Value → Shared → Prop), Takes (X.tr pn xe) W → PassesOwn (model X.prog X.w) X.A X.env xe → SSs (X.tr pn xe) { C with W := W } body fb)
    (hsu : ∀ (a : Addr) (pn : List (Addr × Obj)), SSs (X.suite a pn) C.nox (b₀ :: suite) fs) :
    SS X C (.Try body [.ExceptHandler (some (.Name x np)) (some n) (b₀ :: suite) pos'] [] [] pos) (sTryS t i fb fs) := by
  refine ⟨fun pins s σ H Dn I h => ?_⟩
  refine (ps_try_suite (tb := fun W => liftS X.K { C with W := W } fb) (ts := fun a cls d => liftS X.K C.nox fs) hs hf hN hi hln hx0 hc tk hb fun a cls d pn => hsu a pn).run pins s σ H Dn I ?_
  obtain ⟨δ, v, re, eH, h⟩ := h
  refine ⟨δ, v, re.wish2, eH, ?_⟩
  unfold sTryS at h
  cases e : fb δ v.st with
  | nx δ' s' => rw [e] at h; exact fun σ' v' re l es => h σ' v' re.wish2 l es
  | bk δ' s' => rw [e] at h; exact fun σ' v' re l es => h σ' v' re.wish2 l es
  | ct δ' s' => rw [e] at h; exact fun σ' v' re l es => h σ' v' re.wish2 l es
  | rt d s' => rw [e] at h; exact h
  | stk => rw [e] at h; exact h.elim
  | exc ex δ' s' =>
    rw [e] at h
    simp only at h
    intro cls dd σ' v' re' l' es rx
    cases q : t ex.cls with
    | none => rw [q] at h; exact h.elim
    | some bb =>
      rw [q] at h
      refine ⟨bb, by rw [rx.1]; exact ht _ _ q, fun hb => ?_, fun hb => ?_⟩
      · subst hb
        intro a ha
        simp only at h
        obtain ⟨l2, s2⟩ := new_ok (o := EvO cls dd a) re'.sr ha
        have rep := repx_ev re'.sr rx ha
        have l3 := l'.trans l2
        refine ⟨δ'.set i (some (evD ex)), v'.new a (EvO cls dd a), ((re'.step l2 s2).setV i rep).wish2, rfl, ?_⟩
        have es2 : (v'.new a (EvO cls dd a)).st = s' := es
        rw [es2]
        cases ef : fs (δ'.set i (some (evD ex))) s' with
        | nx δ2 s2 => rw [ef] at h; exact fun σ2 w re2 l4 e4 => h _ w ((re2.setU i none).wish2) (l3.trans l4) e4
        | bk δ2 s2 => rw [ef] at h; exact fun σ2 w re2 l4 e4 => h _ w ((re2.setU i none).wish2) (l3.trans l4) e4
        | ct δ2 s2 => rw [ef] at h; exact fun σ2 w re2 l4 e4 => h _ w ((re2.setU i none).wish2) (l3.trans l4) e4
        | rt d s2 => rw [ef] at h; exact fun x w l4 s4 e4 r4 => h x w l4 s4 e4 r4
        | exc _ _ _ => rw [ef] at h; exact h.elim
        | stk => rw [ef] at h; exact h.elim
      · subst hb
        exact h cls dd σ' v' re'.wish2 l' es rx
end
@[simp] theorem v_sTryS (t : String → Option Bool) (i : Nat) (fb fs : S) (δ : Sl) (s : Sto) : sTryS t i fb fs δ s = (match fb δ s with
  | .exc e δ' s' => (match t e.cls with
    | some true => (match fs (δ'.set i (some (evD e))) s' with
      | .nx δ2 s2 => .nx (δ2.set i none) s2
      | .bk δ2 s2 => .bk (δ2.set i none) s2
      | .ct δ2 s2 => .ct (δ2.set i none) s2
      | .rt d s2 => .rt d s2
      | _ => .stk)
    | some false => .exc e δ' s'
    | none => .stk)
  | r => r) := id rfl
end Gs
/-! ### fields of a kept exception; isinstance -/
namespace L2
open PySem PySem.Spec PyProof.Rows
theorem pe_evf {X : Cx} {e : Expr} {te : TE} {pos : Pos} {n : Str} (he : PE X e te) (hb : attributeBase e n X.env (eval e X.env) = eval e X.env := by rfl) :
    PE X (.Attribute e n pos) (fun σ H Q => te σ H fun x H1 => ∃ (a C dd : Addr) (fs : List (Str × V)) (v : V), x = .ref a ∧ XfC X.K C ∧ PySem.W.findIn X.K (.ref C) n = some none ∧ H1 a = some (EvK (.ref C) (some dd) a) ∧ H1 dd = some (.xd fs) ∧ fs.lookup n = some v ∧ Q v H1) := by
  refine ⟨fun pins s σ H Q I h => ?_⟩
  refine attr_of hb (thn (he.run pins s σ H _ I h) fun u s1 hh => ?_)
  obtain ⟨x, H1, I1, rx, a, C, dd, fs, v, ex, T, hno, eh, ea, l, q⟩ := hh
  subst ex
  obtain rfl : u = Value.ref a := rx
  obtain ⟨⟨oe, vs, ha, hz, hd⟩, _⟩ := (show ObjOk X.prog X.w H1 s1.heap a (EvK (.ref C) (some dd) a) from I1.hok a _ eh)
  have hx : ObjOk X.prog X.w H1 s1.heap dd (.xd fs) := I1.hok dd _ ea
  obtain ⟨mA, hns, hr⟩ := hx
  obtain ⟨od, ho, hl⟩ := lookIn_ns hns
  obtain ⟨u, hu, ru⟩ := RelO.some_of (v := v) (o := mA n) (by rw [← l]; exact hr n)
  have J : PySem.W.InstAt s1.heap a oe C (some od) := ⟨ha, hz.1, by unfold PySem.W.notCls; rw [hd] <;> rfl, by rw [hz.2]; exact ho⟩
  exact HandSPX.exc_get I1.kIn J T.ga T.gg T.exC (PySem.W.findObj_own T.hdC hno rfl (by rw [hl, hu])) (handed_of ru) ⟨v, H1, I1.tok _, ru, q⟩
end L2
namespace Gs
open PySem L2
/-- what is known of the classes whose field n is read -/
def XFd (K : PySem.W.Frag) (ct : String → Addr) (n : Str) (t : String → Bool) : Prop := ∀ c, t c = true → XfC K (ct c) ∧ PySem.W.findIn K (.ref (ct c)) n = some none
def gFdE (n : Str) (t : String → Bool) : D → Option D
  | .ev c ks ds => if t c = true then (ks.zip ds).lookup n else none
  | _ => none
def eFdE (n : Str) (t : String → Bool) (f : E) : E := fun δ s => (f δ s).bind fun d s1 => R.ofO (gFdE n t d) s1
section
variable {X : Cx} {C : Cc}
theorem se_evf {e : Expr} {f : E} {n : Str} {pos : Pos} {t : String → Bool} (ht : XFd X.K C.ct n t) (he : SE X C e f) (hb : attributeBase e n X.env (eval e X.env) = eval e X.env := by rfl) : SE X C (.Attribute e n pos) (eFdE n t f) :=
  pe_weak (pe_evf he hb) fun σ H Q ⟨δ, v, re, eH, h⟩ => ⟨δ, v, re, eH, on_mono (on_bind h) fun d x v1 l1 s1 r1 h1 => by
    obtain ⟨z, ez, h9⟩ := on_ofO h1
    cases r1 with
    | ev0 hG =>
      simp only [gFdE] at ez
      split at ez <;> simp at ez
    | @ev _ _ a dd vs c ks ds hn hG hG2 hl hr =>
      simp only [gFdE] at ez
      split at ez
      · rename_i tc
        obtain ⟨T, hno⟩ := ht c tc
        have rp : RepP X.K C.ct v1.G v1.m (ks.zip ds) (ks.zip vs) := RepP.zip hr
        rcases rp.lookup (x := n) with ⟨q1, _⟩ | ⟨d1, y1, q1, q2, q3⟩
        · rw [q1] at ez; cases ez
        · rw [q1] at ez
          cases ez
          exact ⟨a, C.ct c, dd, _, y1, rfl, T, hno, s1.sub _ _ hG, s1.sub _ _ hG2, q2, h9 _ v1 .refl s1 rfl q3⟩
      · cases ez
    | _ => cases ez⟩
/-! isinstance of an exception, with fields or without -/
def rIsEw (K : PySem.W.Frag) : List V → Hp → VK → Prop := fun xs H Q => ∃ (a D : Addr) (dd : Addr) (fs : List (Str × V)) (c : V) (cv : Value) (b : Bool), xs = [.ref a, c] ∧ ClsV c cv ∧ H a = some (EvO (.ref D) (some dd) a) ∧ H dd = some (.xd fs) ∧ ExcC K D ∧ PySem.W.kitOne K (.ref D) cv = some b ∧ Q (.bl b) H
theorem call_isEw : CallR X (.builtin "isinstance") (rIsEw X.K) := by
  intro pins s σ H xs us Q I r h
  obtain ⟨a, D, dd, fs, c, cv, b, rfl, hcv, hH, hdd, EC, e, q⟩ := h
  cases r with
  | cons rx rr =>
    cases rr with
    | cons rt rr =>
      cases rr
      cases rx
      have ec := hcv.eq rt
      subst ec
      obtain ⟨⟨oe, vs, hget, hz, hv⟩, _⟩ := (show ObjOk X.prog X.w H s.heap a (EvO (.ref D) (some dd) a) from I.hok a _ hH)
      have hx : ObjOk X.prog X.w H s.heap dd (.xd fs) := I.hok dd _ hdd
      obtain ⟨mA, hns, hr⟩ := hx
      obtain ⟨od, ho, hl⟩ := lookIn_ns hns
      have J : PySem.W.InstAt s.heap a oe D (some od) := ⟨hget, hz.1, by unfold PySem.W.notCls; rw [hv] <;> rfl, by rw [hz.2]; exact ho⟩
      have hcl : (PySem.W.clsIn X.K D).isSome = true := by
        have hd := EC.hd
        unfold PySem.W.hasDictIn at hd
        cases q : PySem.W.clsIn X.K D with
        | some c => rfl
        | none => rw [q] at hd; simp at hd
      exact PySem.W.kia_one (PySem.W.kitx_exc hcl EC.hg EC.hk EC.hs EC.ha EC.hn EC.ht EC.hm) I.kIn J e (fun z => nomatch z) fun tk => ⟨.bl b, H, I.kept (t' := tk) fun _ _ z => z, rfl, q⟩
theorem call_isV : CallR X (.builtin "isinstance") (fun xs H Q => rIsi X.K xs H Q ∨ rIsEv X.K xs H Q ∨ rIsEw X.K xs H Q) := fun pins s σ H xs us Q I r h =>
  h.elim (call_isi pins s σ H xs us Q I r) fun h => h.elim (call_isEv pins s σ H xs us Q I r) (call_isEw pins s σ H xs us Q I r)
/-- as gIsC, of exceptions with fields, too -/
def gIsD (tb : String → Option Bool) : B1
  | .non => some (.bl false)
  | .ev c _ _ => (tb c).map .bl
  | _ => none
theorem se_isD {C : Cc} {a : Expr} {fa : E} {pf pn pos : Pos} {nx : Str} {cV : V} {cv : Value} {tb : String → Option Bool} (ha : SE X C a fa) (hg : Gl X "isinstance") (hm : X.mg "isinstance" = none) (hc : PE X (.Name nx pn) (tC cV)) (hk : ClsV cV cv) (hE : EI X.K C.ct tb cv)
    (hvi : bootBuiltins "isinstance" = some (.builtin "isinstance") := by decide +kernel)
    (hs : starEach [a, .Name nx pn] X.env = (false, eval a X.env) :: starEach [.Name nx pn] X.env := by rfl) (hpl : (backTo pos (starEach [.Name nx pn] X.env)).any (·.1) = false := by rfl)
    (hs2 : starEach [.Name nx pn] X.env = (false, eval (.Name nx pn) X.env) :: starEach [] X.env := by rfl) :
    SE X C (.Call (.Name "isinstance" pf) [a, .Name nx pn] [] pos) (eUn (gIsD tb) fa) :=
  pe_weak (pe_callB call_isV hg hm hvi (pa_cons ha (pa_cons hc pa_nil hs2) hs) (by decide) (by decide) hs hpl) fun σ H Q h => by
    obtain ⟨δ, v8, re, eH, h1⟩ := lift_un h
    refine ⟨δ, v8, re, eH, on_mono h1 fun d x v1 l1 s1 r1 h2 => ?_⟩
    obtain ⟨v2, dx, d2, eH2, sr, e, r2, h2⟩ := h2
    rw [← eH2]
    cases r2 with
    | non =>
      simp only [gIsD, Option.some.injEq] at e
      subst e
      exact .inl ⟨.non, cV, .type "NoneType", cv, false, rfl, hk, .base .non, hE.non, h2 _ v2 .refl sr rfl (.bl _)⟩
    | @ev a0 c ks0 ds0 r3 =>
      simp only [gIsD] at e
      cases q : tb c with
      | none => rw [q] at e; exact nomatch e
      | some b =>
        rw [q] at e
        simp only [Option.map_some, Option.some.injEq] at e
        subst e
        obtain ⟨h3, h4⟩ := hE.ev c b q
        cases r3 with
        | ev0 hG => exact .inr (.inl ⟨a0, C.ct c, cV, cv, b, rfl, hk, sr.sub _ _ hG, h3, h4, h2 _ v2 .refl sr rfl (.bl _)⟩)
        | ev n hG hG2 hl hr => exact .inr (.inr ⟨a0, C.ct c, _, _, cV, cv, b, rfl, hk, sr.sub _ _ hG, sr.sub _ _ hG2, h3, h4, h2 _ v2 .refl sr rfl (.bl _)⟩)
    | _ => simp only [gIsD, reduceCtorEq] at e
end
@[simp] theorem v_isD_non (tb : String → Option Bool) : gIsD tb .non = some (.bl false) := id rfl
@[simp] theorem v_isD_ev (tb : String → Option Bool) (c : String) (ks : List Str) (ds : List D) : gIsD tb (.ev c ks ds) = (tb c).map .bl := id rfl
@[simp] theorem v_eFdE (n : Str) (t : String → Bool) (f : E) (δ : Sl) (s : Sto) : eFdE n t f δ s = (f δ s).bind fun d s1 => R.ofO (gFdE n t d) s1 := id rfl
@[simp] theorem v_sRaiseF (c : String) (ns : List Str) (a : As) (δ : Sl) (s : Sto) : sRaiseF c ns a δ s = sBind (a δ s) δ fun ds s1 => match ds with
  | _ :: ys => if ys.length = ns.length ∧ ns.length ≤ 10 ∧ ns ≠ [] then .exc ⟨c, (ns.zip ys).reverse⟩ δ s1 else .stk
  | [] => .stk := id rfl
end Gs

/-! GSl: [::-1] of a list, a tuple, a text; slices of lists with a step. -/
namespace HT
open PySem PySem.Spec PyProof.Rows L2
section
variable {prog : Program} {w : World} {A : Around} {E : Value → Shared → Prop} {s : Shared}
theorem sliceApplied_rev {sl : Addr} {vs : Value} {n : Nat} {Q : Int × Int × Nat → Shared → Prop} (hs : s.heap.IsSliceOf sl .none .none vs) (ps : IsPart vs (some (-1)))
    (h : Q ((n : Int) - 1, -1, n) s) : wpAny (model prog w) A (Builtin.Slice.sliceApplied (.ref sl) (pure (n : Int))) Q E s := by
  obtain ⟨os, hos, hcs, hds⟩ := id hs
  unfold Builtin.Slice.sliceApplied Builtin.Slice.sliceFields
  refine wpAny_bind (wpAny_bind (wpAny_field hos hds (x := .none) rfl (wpAny_bind (wpAny_field hos hds (x := .none) rfl (wpAny_bind (wpAny_field hos hds (x := vs) rfl (wpAny_pure ?_)))))))
  refine wpAny_bind (slicePart_ ps ?_)
  show wpAny _ _ (if ((-1 : Int) == 0) = true then _ else _) _ _ s
  rw [if_neg (by decide)]
  refine wpAny_bind (slicePart_none (wpAny_bind (slicePart_none (wpAny_bind (wpAny_pure ?_)))))
  have e1 : Builtin.Slice.sliceAdjust none none (-1) (n : Int) = ((n : Int) - 1, -1) := by
    unfold Builtin.Slice.sliceAdjust
    simp
  have e2 : Builtin.Slice.slicePlaces ((n : Int) - 1) (-1) (-1) = n := by
    unfold Builtin.Slice.slicePlaces
    simp only [show ¬ ((-1 : Int) > 0) by decide, if_false, Int.neg_neg, Int.ediv_one]
    split <;> omega
  show wpAny _ _ (match Builtin.Slice.sliceAdjust none none (-1) (n : Int) with | (lo, hi) => pure (lo, (-1 : Int), Builtin.Slice.slicePlaces lo hi (-1))) _ _ s
  rw [e1]
  show wpAny _ _ (pure ((n : Int) - 1, (-1 : Int), Builtin.Slice.slicePlaces ((n : Int) - 1) (-1) (-1))) _ _ s
  rw [e2]
  exact wpAny_pure h
theorem fm_congr {α β : Type} {f g : α → Option β} : ∀ {l : List α}, (∀ x ∈ l, f x = g x) → l.filterMap f = l.filterMap g
  | [], _ => rfl
  | x :: l, h => by
    rw [List.filterMap_cons, List.filterMap_cons, h x (by simp), fm_congr fun y hy => h y (by simp [hy])]
theorem pick_rev (xs : Array Value) : ((List.range xs.size).filterMap fun (m : Nat) => xs[((xs.size : Int) - 1 + (m : Int) * -1).toNat]?).toArray = xs.toList.reverse.toArray := by
  congr 1
  apply List.ext_getElem?
  intro i
  have e : (List.range xs.size).filterMap (fun (m : Nat) => xs[((xs.size : Int) - 1 + (m : Int) * -1).toNat]?) = (List.range xs.size).map (fun m => xs.toList.reverse[m]!) := by
    rw [← List.filterMap_eq_map]
    apply fm_congr
    intro m hm
    have hm := List.mem_range.mp hm
    have e2 : ((xs.size : Int) - 1 + (m : Int) * -1).toNat = xs.size - 1 - m := by omega
    rw [e2]
    have h1 : xs.size - 1 - m < xs.size := by omega
    have h2 : m < xs.toList.reverse.length := by simpa using hm
    simp [h1, List.getElem!_eq_getElem?_getD, List.getElem?_reverse, hm]
  rw [e]
  by_cases h : i < xs.size
  · have h2 : i < xs.toList.reverse.length := by simpa using h
    rw [List.getElem?_map, List.getElem?_range h]
    simp only [Option.map_some]
    rw [List.getElem?_eq_getElem h2, List.getElem!_eq_getElem?_getD, List.getElem?_eq_getElem h2]
    rfl
  · rw [List.getElem?_eq_none (by simpa using h), List.getElem?_eq_none (by simpa using h)]
theorem getItem_tuple_rev {t sl : Addr} {items : Array Value} {vs : Value} {Q : Value → Shared → Prop} (ht : IsTup s.heap t items) (hs : s.heap.IsSliceOf sl .none .none vs) (ps : IsPart vs (some (-1)))
    (h : Q (.ref s.heap.objs.size) { s with heap := s.heap.push { cls := .type "tuple", data := .seq items.toList.reverse.toArray } })
    (hsz : items.size ≤ sizeLine) : wpAny (model prog w) A (getItem (.ref t) (.ref sl)) Q E s := by
  have htake : sizeOk (.seq items.toList.reverse.toArray) := by
    show items.toList.reverse.toArray.size ≤ sizeLine
    simpa using hsz
  obtain ⟨os, hos, hcs, hds⟩ := id hs
  have hTs : s.TypeIs (.ref sl) "slice" := ⟨os, hos, hcs⟩
  unfold getItem
  try with_reducible refine wpAny_holding ?_
  first | refine wpAny_bind (wpAny_pure ?_) | skip
  refine wpAny_bind (wpAny_sequenceKey ht.typeIs (by decide) ?_)
  refine wpAny_bind (wpAny_callSpecial?_slot (name := Str.ofString "__getitem__") ht.typeIs PyProof.Rows.slot_tuple_getitem
    (wpAny_call_entry PyProof.Rows.slot_tuple_getitem ht.typeIs entry_tuple_getitem ?_ (args_tuple_getitem _ _)))
  show wpAny _ _ (Builtin.Tuple.tupleItemsOf (.ref t) >>= _) _ _ s
  refine wpAny_bind (tupleItemsOf_ ht ?_)
  refine wpAny_bind (wpAny_typeOf hTs ?_)
  rw [if_pos (by decide)]
  refine wpAny_bind (sliceApplied_rev (n := items.size) hs ps ?_)
  have hno : ¬ (((items.size : Int) - 1 == 0 && (-1 : Int) == 1 && items.size == items.size) = true) := by
    intro q
    rw [Bool.and_eq_true, Bool.and_eq_true] at q
    exact absurd q.1.2 (by decide)
  show wpAny _ _ (if ((items.size : Int) - 1 == 0 && (-1 : Int) == 1 && items.size == items.size) = true then _ else _) _ _ s
  rw [if_neg hno, pick_rev]
  first
    | exact wpAny_bind (m := Builtin.Tuple.tupleExact _) (wpAny_newObj_type (wpAny_pure ⟨_, rfl, wpAny_pure h⟩) htake)
    | exact wpAny_bind (m := Builtin.Tuple.tupleExact _) (wpAny_newObj_type (wpAny_bind (wpAny_pure (wpAny_pure ⟨_, rfl, wpAny_pure h⟩))) htake)
    | exact wpAny_bind (wpAny_bind (m := Builtin.Tuple.tupleExact _) (wpAny_newObj_type (wpAny_pure (wpAny_pure ⟨_, rfl, wpAny_pure h⟩)) htake))
    | exact wpAny_bind (wpAny_bind (m := Builtin.Tuple.tupleExact _) (wpAny_newObj_type (wpAny_pure ⟨_, rfl, wpAny_pure h⟩) htake))
end
end HT
namespace L2
open PySem PySem.Spec PyProof.Rows
def revS (z : Str) : Str := ⟨z.cps.toList.reverse.toArray⟩
theorem str_pick_rev (x : Str) : (⟨((Builtin.Str.strSliceIndices none none (-1) x.length).filterMap (x.cps[·]?)).toArray⟩ : Str) = revS x := by
  unfold revS
  congr 2
  have e : Builtin.Str.strSliceIndices none none (-1) x.length = (List.range x.cps.size).map fun k => x.cps.size - 1 - k := PySem.W.krv_sliceRange x.cps.size
  rw [e, PySem.W.krv_range, List.filterMap_reverse, PySem.W.krv_all]
def tRevT (K : PySem.W.Frag) (te : TE) : TE := fun σ H Q => te σ H fun x H1 => (∃ a xs, x = .ref a ∧ SqL K H1 a xs ∧ ∀ p, H1 p = none → Q (.ref p) (upd H1 p (.lst xs.reverse))) ∨
  (∃ a xs, x = .ref a ∧ SqT K H1 a xs ∧ ∀ p, H1 p = none → Q (.ref p) (upd H1 p (.tup xs.reverse))) ∨ ∃ z, x = .str z ∧ z.length ≤ sizeLine ∧ Q (.str (revS z)) H1
section
variable {X : Cx}
theorem pe_revA {e : Expr} {te : TE} {k : Nat} {p1 p2 p3 pos : Pos} (he : PE X e te) : PE X (.Subscript e (.Slice none none (some (.UnaryOp .USub (.Constant (.int 1) k p1) p2)) p3) pos) (tRevT X.K te) := by
  refine ⟨fun pins s σ H Q I h => ?_⟩
  refine Subscript_ (thn (he.run pins s σ H _ I h) fun v s1 ⟨x, H1, I1, r1, q1⟩ => ?_)
  have hst : PO X (some (.UnaryOp .USub (.Constant (.int 1) k p1) p2)) (tPart (tUn (rU fun i => .int (-i)) (tC (.int 1)))) := po_some (pe_un un_neg pe_int)
  refine wpAny_Slice (thn (po_none.run pins s1 σ H1 (fun o H2 => o = none ∧ H2 = H1) I1 ⟨rfl, rfl⟩) fun vl s2 ⟨l, H2, I2, pl, el, e2⟩ => ?_)
  subst el e2
  refine thn (po_none.run pins s2 σ H2 (fun o H3 => o = none ∧ H3 = H2) I2 ⟨rfl, rfl⟩) fun vu s3 ⟨u, H3, I3, pu, eu, e3⟩ => ?_
  subst eu e3
  refine thn (hst.run pins s3 σ H3 (fun o H4 => o = some (-1) ∧ H4 = H3) I3 ⟨1, rfl, -1, rfl, rfl, rfl⟩) fun vs s4 ⟨o, H4, I4, ps, eo, e4⟩ => ?_
  subst eo e4
  have I5 : Inv X pins σ H4 { s4 with heap := s4.heap.push { cls := .type "slice", data := .fields #[vl, vu, vs] } } := I4.kept (t' := s4.toks) fun b ob q => Heap.get?_push_of_some _ q
  have el : vl = .none := by cases pl; rfl
  have eu : vu = .none := by cases pu; rfl
  rcases q1 with ⟨a, xs, ex, hx, q⟩ | ⟨a, xs, ex, hx, q⟩ | ⟨z, ex, hz, q⟩
  · subst ex
    cases r1
    obtain ⟨its, r, ht, hz⟩ := I5.list hx
    have hlen := r.length
    refine tail_any (ops := [.ref a, .ref s4.heap.objs.size]) ht.isList.typeIs (PySem.slot_list_getitem.lookup) ?_ (by with_unfolding_all rfl)
    refine wpAny_getItem_list_slice ht.isList (Heap.IsSliceOf.new _ vl vu vs) pl pu ps (by decide) ?_ (by rw [List.size_toArray]; omega)
    rw [PySem.W.krv_pick]
    refine ⟨.ref _, _, I5.laid (t' := s4.toks) (o := .lst xs.reverse) (fun b ob q => Heap.get?_push_of_some _ q) (Nat.le_refl _) ?_, rfl, q _ (I5.hok.fresh (Nat.le_refl _))⟩
    exact ⟨by rw [List.length_reverse]; exact hz, _, 0, r.reverse, Heap.get?_push_size _ rfl⟩
  · subst ex el eu
    cases r1
    obtain ⟨its, r, ht, hz⟩ := I5.tuple hx
    have hlen := r.length
    refine tail_any (ops := [.ref a, .ref s4.heap.objs.size]) ht.typeIs PyProof.Rows.slot_tuple_getitem.lookup ?_ (by with_unfolding_all rfl)
    refine HT.getItem_tuple_rev ht (Heap.IsSliceOf.new _ .none .none vs) ps ?_ (by rw [List.size_toArray]; omega)
    refine ⟨.ref _, _, I5.laid (t' := s4.toks) (o := .tup xs.reverse) (fun b ob q => Heap.get?_push_of_some _ q) (Nat.le_refl _) ?_, rfl, q _ (I5.hok.fresh (Nat.le_refl _))⟩
    exact ⟨by rw [List.length_reverse]; exact hz, _, r.reverse, IsTup.new _ _⟩
  · subst ex
    obtain ⟨t, rfl⟩ := r1
    obtain ⟨l', e1, e2⟩ := IsPart.raw pl
    obtain ⟨u', e3, e4⟩ := IsPart.raw pu
    obtain ⟨s', e5, e6⟩ := IsPart.raw ps
    obtain ⟨os, hos, hcs, hds⟩ := Heap.IsSliceOf.new s4.heap vl vu vs
    subst e1 e3 e5
    refine tail_any (ops := [.str z t, .ref s4.heap.objs.size]) (typeIs_str _ _ _) F.slot_str_getitem.lookup ?_ (by with_unfolding_all rfl)
    have hs1 : (s'.map (·.1)) = some (-1) := e6
    have hl0 : (l'.map (·.1)) = none := e2
    have hu0 : (u'.map (·.1)) = none := e4
    refine wpAny_getItem_str_slice (l := l') (u := u') (st := s') ⟨os, hos, hcs, hds⟩ (by rw [hs1]; rfl) ?_
    have em : sliceMade z t l' u' s' = Made.str (revS z) := by
      unfold sliceMade slicePicked
      rw [hs1, hl0, hu0]
      rw [if_neg (by simp)]
      congr 1
      exact str_pick_rev z
    rw [em]
    refine ⟨?_, .str _, H4, I5.tok _, ⟨_, rfl⟩, q⟩
    show (revS z).cps.size ≤ sizeLine
    simpa [revS, Str.length] using hz
end
end L2
namespace Gs
open PySem L2
def gRevA : B1
  | .lst xs => some (.lst xs.reverse)
  | .tup xs => some (.tup xs.reverse)
  | .str z => if z.length ≤ sizeLine then some (.str (L2.revS z)) else none
  | _ => none
section
variable {X : Cx} {C : Cc} {a : Expr} {fa : E} {pos : Pos}
theorem se_revA {k : Nat} {p1 p3 p4 : Pos} (ha : SE X C a fa) : SE X C (.Subscript a (.Slice none none (some (.UnaryOp .USub (.Constant (.int 1) k p1) p3)) p4) pos) (eUn gRevA fa) :=
  pe_weak (pe_revA ha) fun σ H Q h => by
    obtain ⟨δ, v, re, eH, h1⟩ := lift_un h
    refine ⟨δ, v, re, eH, on_mono h1 fun d x v1 l1 s1 r1 h2 => ?_⟩
    obtain ⟨v2, dx, d2, eH2, sr, e, r2, h2⟩ := h2
    rw [← eH2]
    cases r2 <;> simp only [gRevA, Option.some.injEq, reduceCtorEq] at e
    · rename_i z
      split at e
      · rename_i hz
        cases e
        exact .inr (.inr ⟨z, rfl, hz, h2 _ v2 .refl sr rfl (.str _)⟩)
      · cases e
    · rename_i c vs ds p q
      subst e
      exact .inr (.inl ⟨_, _, rfl, sqt_mono sr.sub p, fun l hl => let ⟨l9, s9⟩ := new_ok (o := .tup _) sr hl; h2 _ _ l9 s9 rfl (.tup (SqT.of upd_same) (l9.repl q.reverse))⟩)
    · rename_i c vs ds p q
      subst e
      exact .inl ⟨_, _, rfl, p, fun l hl => let ⟨l9, s9⟩ := new_ok (o := .lst _) sr hl; h2 _ _ l9 s9 rfl (.lst (SqL.of upd_same) (l9.repl q.reverse))⟩
end
@[simp] theorem v_revA_lst (xs : List D) : gRevA (.lst xs) = some (.lst xs.reverse) := id rfl
@[simp] theorem v_revA_tup (xs : List D) : gRevA (.tup xs) = some (.tup xs.reverse) := id rfl
@[simp] theorem v_revA_str (z : Str) : gRevA (.str z) = if z.length ≤ sizeLine then some (.str (L2.revS z)) else none := id rfl
end Gs

set_option maxHeartbeats 3200000
/-! GSs: len(set(xs)), xs a list of texts. -/
namespace Gs
open PySem PySem.Spec PyProof.Rows L2
/-- how many unlike texts are among the first i -/
def unl (xs : List Str) : Nat → Nat
  | 0 => 0
  | i + 1 => if (xs.take i).any (· == xs.getD i Str.empty) = true then unl xs i else unl xs i + 1
theorem unl_le (xs : List Str) : ∀ i, unl xs i ≤ i
  | 0 => Nat.le_refl _
  | i + 1 => by
    have := unl_le xs i
    unfold unl
    split <;> omega
theorem any_snoc {xs : List Str} {i : Nat} (h : i < xs.length) (k : Str) : ((xs.take i).any (· == k) || decide (k = xs.getD i Str.empty)) = (xs.take (i + 1)).any (· == k) := by
  have e1 : xs.getD i Str.empty = xs[i] := by simp [List.getD, h]
  have e2 : xs.take (i + 1) = xs.take i ++ [xs[i]] := by rw [List.take_add_one, List.getElem?_eq_getElem h]; rfl
  rw [e1, e2, List.any_append]
  congr 1
  by_cases e : k = xs[i]
  · subst e; simp
  · have hb : (xs[i] == k) = false := by simpa [beq_iff_eq] using fun h' : xs[i] = k => e h'.symm
    simp [hb, e]
section
variable {prog : Program} {w : World} {A : Around} {R : Result → Shared → Prop} {I : Addr} {fp wr : List Addr} {G : Array GenState → Array GenState → Prop} {n : Nat} {P : Nat → Value → Prop} {St : Nat → Shared → Prop}
theorem set_loop (W : WalksS prog w A.in1 I fp wr G n P St) (S : Addr) (hSf : S ∉ fp) (xs : List Str) (hsz : xs.length = n) (hn : n + 1 < scanBound)
    (hval : ∀ i v, P i v → ∃ t, v = .str (xs.getD i Str.empty) t) :
    ∀ (k i : Nat) (s : Shared), n - i = k → i ≤ n → St i s →
      s.heap.SetOf (PySem.strKind prog w) S (fun k' => (xs.take i).any (· == k')) (unl xs i) →
      (∀ s', Moved (S :: wr) G s s' → s'.heap.SetOf (PySem.strKind prog w) S (fun k' => (xs.take n).any (· == k')) (unl xs n) → R (.ok (.ret .none)) s') →
      codeAny (model prog w) A (.builtin "set.update.loop" ⟨[.ref S, .ref I], []⟩) R s := by
  have hSw : S ∉ wr := fun h => hSf (W.sub _ h)
  have hsub : ∀ b ∈ wr, b ∈ S :: wr := fun b hb => List.mem_cons_of_mem _ hb
  intro k
  induction k with
  | zero =>
    intro i s hk hi hst hS hR
    obtain rfl : i = n := by omega
    refine codeAny_builtin PyProof.Rows.F.entry_set_update_loop ?_
    rw [Around.under_plainId PyProof.Rows.F.plain_set_update_loop _]
    show wpAny _ A.in1 (pyNext (.ref I) >>= _) _ _ s
    refine wpAny_bind (W.done s _ _ hst fun s' hm => ?_)
    show wpAny _ A.in1 (ret Value.none) _ _ s'
    obtain ⟨o, es, ep, t, ho, rest⟩ := hS
    exact wpAny_pure (hR s' (hm.mono hsub) ⟨o, es, ep, t, hm.heap S _ hSw ho, rest⟩)
  | succ k ih =>
    intro i s hk hi hst hS hR
    have hlt : i < n := by omega
    refine codeAny_builtin PyProof.Rows.F.entry_set_update_loop ?_
    rw [Around.under_plainId PyProof.Rows.F.plain_set_update_loop _]
    show wpAny _ A.in1 (pyNext (.ref I) >>= _) _ _ s
    refine wpAny_bind (W.item i s _ _ hlt hst fun v s' hP hst' hm => ?_)
    obtain ⟨t, rfl⟩ := hval i v hP
    have hS' : s'.heap.SetOf (PySem.strKind prog w) S (fun k' => (xs.take i).any (· == k')) (unl xs i) := by
      obtain ⟨o, es, ep, tb, ho, rest⟩ := hS
      exact ⟨o, es, ep, tb, hm.heap S _ hSw ho, rest⟩
    show wpAny _ A.in1 (holding [Value.str (xs.getD i Str.empty) t] (setAdd S (.str (xs.getD i Str.empty) t)) >>= _) _ _ s'
    refine wpAny_bind (wpAny_holding ?_)
    unfold setAdd
    refine wpAny_holding ?_
    refine wpAny_bind ((PySem.strKind prog w).pyHash (k := xs.getD i Str.empty) (strKind_is _ _ _ _) ?_)
    have hle := unl_le xs i
    refine wpAny_setAddHashed_of (knd := PySem.strKind prog w) (s := { s' with toks := s'.toks + 1 }) (strKind_is _ _ _ _) rfl hS' (by omega) fun h' hsb hS2 => ?_
    have hSi : h'.SetOf (PySem.strKind prog w) S (fun k' => (xs.take (i + 1)).any (· == k')) (unl xs (i + 1)) :=
      SetOf_congr hS2 (fun k' => any_snoc (by omega) k') rfl
    refine wpAny_pure ⟨plainId_quiet PyProof.Rows.F.plain_set_update_loop _, ih (i + 1) _ (by omega) hlt (W.frame _ s' _ _ hst' (Nat.le_succ _) fun b hb o e => ?_) hSi fun s'' hm'' hS'' => ?_⟩
    · rw [hsb.2 b (fun h : b = S => hSf (by rw [← h]; exact hb))]; exact e
    · refine hR s'' (Moved.trans W.gtrans ((hm.mono hsub).then_heap (Nat.le_succ _) fun b o hb e => ?_) hm'') hS''
      rw [hsb.2 b (fun h : b = S => hb (by rw [h]; exact List.mem_cons_self))]; exact e
end
section
variable {prog : Program} {w : World} {A : Around} {E : Value → Shared → Prop} {s : Shared}
theorem call_set_strs {l : Addr} {items : Array Value} {xs : List Str} {Q : Value → Shared → Prop}
    (hh : A.handled = none) (hl : s.heap.IsList l items) (hi : PyProof.Rows.StrsAre items.toList xs) (hn : items.size + 1 < scanBound)
    (h : ∀ (h' : Heap) (tk : Nat), h'.SetOf (PySem.strKind prog w) s.heap.objs.size (fun k' => (xs.take items.size).any (· == k')) (unl xs items.size) →
      (∀ b o, b < s.heap.objs.size → s.heap.get? b = some o → h'.get? b = some o) → Q (.ref s.heap.objs.size) { s with heap := h', toks := tk }) :
    wpAny (model prog w) A (call (.type "set") [.ref l]) Q E s := by
  obtain ⟨c, tl, hmro⟩ := PySem.F.called_set.mro
  have hmade := PySem.F.called_set.made
  have hsub := PySem.F.called_set.sub
  refine wpAny_call (codeAny_of_tree ?_)
  show wpAny _ _ (callAny (.type "set") _) _ _ _
  refine wpAny_pure ⟨Code.quiet_builtin _ (by decide +kernel), codeAny_builtin PySem.F.entry_type_call ?_⟩
  rw [Around.under_plain (weight_type_call_type "set" [.ref l] []) rfl]
  have h1 := PySem.F.called_set.notType
  have h2 := PySem.F.called_set.canCreate
  have hct := PySem.F.typeCall_set_1 (.ref l)
  repeat (any_goals (first | assumption | wp_step))
  refine codeAny_mono (code_set_new_1 (.ref l) (E := E) (Q₁ := fun obj s₁ => ∃ led : Bool, obj = .ref s.heap.objs.size ∧ s₁ = { s with heap := s.heap.push { cls := .type "set", dict := none, data := .set #[] 0 (.fresh 0 0 led) } }) fun led => ⟨led, rfl, rfl⟩) fun r s₁ hr => ?_
  cases r with
  | error e => exact hr
  | ok fl =>
    cases fl with
    | ret obj =>
      obtain ⟨led, rfl, rfl⟩ := hr
      generalize hO : ({ cls := .type "set", dict := none, data := .set #[] 0 (.fresh 0 0 led) } : Obj) = ob
      have hS : (s.heap.push ob).get? s.heap.objs.size = some ob := by subst hO; exact Heap.get?_push_size _ rfl
      have hT : Shared.TypeIs { s with heap := s.heap.push ob } (.ref s.heap.objs.size) "set" := ⟨_, hS, by rw [← hO]⟩
      have hli := PySem.F.called_set.init.lookup
      have hbi := PySem.F.called_set.init.bind (.ref s.heap.objs.size)
      repeat (any_goals (first | assumption | wp_step))
      refine codeAny_mono (codeAny_call_builtin (R := wants (fun r s₂ => r = .none ∧ ∃ h' tk, s₂ = { s with heap := h', toks := tk } ∧
          h'.SetOf (PySem.strKind prog w) s.heap.objs.size (fun k' => (xs.take items.size).any (· == k')) (unl xs items.size) ∧
          (∀ b o, b < s.heap.objs.size → s.heap.get? b = some o → h'.get? b = some o)) E) PySem.F.called_set.init.plain PySem.F.entry_set_init (check_set_init_1 hT ?_)) fun r₂ s₂ hr₂ => ?_
      · obtain ⟨⟨ocls, odict, odata, oslots⟩, hol, hcl, nl, hdl⟩ := hl
        simp only at hcl hdl
        subst hcl; subst hdl
        have hlS : l < s.heap.objs.size := Heap.lt_size hol
        have hol' : (s.heap.push ob).get? l = some { cls := .type "list", dict := odict, data := .seq items nl, slots := oslots } := Heap.get?_push_of_some _ hol
        have hsls := PySem.F.sub_list_set
        have hslf := PySem.F.sub_list_frozenset
        have hne : (Value.type "list" == Value.type "dict") = false := by decide
        have hl1 : (s.heap.push ob).IsList l items := ⟨_, hol', rfl, nl, rfl⟩
        unfold Builtin.«set.__init__» noKeywords Builtin.Frozenset.updateFrom
        subst hO
        generalize hPI : pyIter = PI
        wp_walk
        subst hPI
        refine wpAny_pyIter_list hl1 (wpAny_bind (wpAny_runValue ?_))
        have hh3 : A.in1.in1.in1.handled = none := by simp [hh]
        generalize hO : ({ cls := .type "set", dict := none, data := .set #[] 0 (.fresh 0 0 led) } : Obj) = ob at hS hT hol' hl1 ⊢
        have hz : (s.heap.push ob).objs.size = s.heap.objs.size + 1 := Heap.size_push ..
        have hneI : l ≠ (s.heap.push ob).objs.size := by
          rw [hz]; exact Nat.ne_of_lt (Nat.lt_succ_of_lt hlS)
        have hSf : s.heap.objs.size ∉ [(s.heap.push ob).objs.size, l] := by
          rw [hz]; simp only [List.mem_cons, List.not_mem_nil, or_false, not_or]
          exact ⟨Nat.ne_of_lt (Nat.lt_succ_self _), Nat.ne_of_gt hlS⟩
        have hsz : xs.length = items.size := by rw [← StrsAre.len_eq hi, Array.length_toList]
        refine set_loop ((Walks.list hh3 _ l hneI items).toS) s.heap.objs.size hSf xs hsz hn (fun i v hv => SS.strs_at hi i v (by rw [Array.getElem?_toList]; exact hv)) (items.size - 0) 0 _ (by omega) (Nat.zero_le _)
          ⟨⟨_, Heap.get?_push_size _ rfl, rfl, rfl⟩, (hl1.push _)⟩ ?_ fun s' hm hS' => ?_
        · subst hO
          exact PyProof.Rows.SetOf_congr ((PyProof.Rows.setObjOf_fresh (knd := PySem.strKind prog w) led).setOf (Heap.get?_push_of_some _ hS) (by unfold scanBound; omega)) (fun _ => rfl) rfl
        · obtain ⟨h', g', d', tk', os'⟩ := s'
          have eg : g' = s.gens := hm.gens
          have ed : d' = s.drawn := hm.drawn
          have eo : os' = s.os := hm.os
          subst eg; subst ed; subst eo
          refine wpAny_pure ?_
          show wpAny _ _ (ret Value.none) _ _ _
          refine wpAny_pure ⟨rfl, h', tk', rfl, hS', fun b o hb e => ?_⟩
          refine hm.heap b o ?_ (Heap.get?_push_of_some _ (Heap.get?_push_of_some _ e))
          simp only [List.mem_cons, List.not_mem_nil, or_false, not_or]
          exact ⟨Nat.ne_of_lt hb, by rw [hz]; exact Nat.ne_of_lt (Nat.lt_succ_of_lt hb)⟩
      · cases r₂ with
        | error e => exact hr₂
        | ok fl₂ =>
          cases fl₂ with
          | ret r =>
            obtain ⟨rfl, h', tk, rfl, hS', hk'⟩ := hr₂
            repeat (any_goals (first | assumption | wp_step))
            exact h _ _ hS' hk'
          | _ => exact hr₂.elim
    | _ => exact hr.elim
end
def tLenSetS (K : PySem.W.Frag) (ta : TE) : TE := fun σ H Q => ta σ H fun x H1 => ∃ (l : Addr) (xs : List Str), x = .ref l ∧ SqL K H1 l (xs.map V.str) ∧ xs.length ≤ 4000 ∧ Q (.int (unl xs xs.length : Nat)) H1
theorem pe_lenSetS {X : Cx} {a : Expr} {ta : TE} {p p2 q pos : Pos} (hg : Gl X "len") (hm : X.mg "len" = none) (hg2 : Gl X "set") (hm2 : X.mg "set" = none) (ha : PE X a ta) (hc : X.calm = true := by rfl)
    (na : starEach [a] X.env = (false, eval a X.env) :: starEach [] X.env := by rfl) : PE X (.Call (.Name "len" p) [.Call (.Name "set" p2) [a] [] q] [] pos) (tLenSetS X.K ta) := by
  refine ⟨fun pins s σ H Q I h => ?_⟩
  refine Call_ (ld_blt I hg hm boot_len ?_)
  refine PyProof.Rows.callWith_builtin1 (PyProof.Rows.args_cons ?_ rfl) rfl rfl
  refine Call_ (ld_blt I hg2 hm2 boot_set ?_)
  refine PyProof.Rows.callWith_type1 (PyProof.Rows.args_cons (thn (ha.run pins s σ H _ I h) fun v s1 ⟨x, H1, I1, r1, q1⟩ => PyProof.Rows.args_nil ?_) na) na rfl
  obtain ⟨l, xs, rfl, hq, hl, q1⟩ := q1
  cases r1
  obtain ⟨its, r, pl, hz⟩ := I1.list hq
  have hlen : its.toArray.size = xs.length := by rw [List.size_toArray, ← r.length, List.length_map]
  refine call_set_strs (I1.ok.hd hc) pl.isList (by simpa using strsAre_of r) (by rw [hlen]; unfold scanBound; omega) fun h' tk hS hk => ?_
  refine PyProof.Rows.args_nil ?_
  rw [hlen] at hS
  obtain ⟨o, es, ep, t, ho, hex, hd, _, _, _, hf, hn⟩ := hS
  have hle := unl_le xs xs.length
  have I2 : Inv X pins σ H1 { s1 with heap := h', toks := tk } := I1.kept fun b o e => hk b o (Heap.lt_size e) e
  exact call_len_set ho hex hd hf (by rw [hn] <;> omega) ⟨.int (unl xs xs.length : Nat), H1, I2.tok _, ⟨_, by rw [hn]⟩, q1⟩
theorem rep_strs {K : PySem.W.Frag} {ct : String → Addr} {G : Hp} {m : Nat → Option Addr} : ∀ {ds : List D} {vs : List V} {xs : List Str}, RepL K ct G m ds vs → strsOf ds = some xs → vs = xs.map V.str
  | [], _, xs, .nil, e => by simp only [strsOf, Option.some.injEq] at e; subst e; rfl
  | .str x :: ds, _, xs, .cons r rr, e => by
    simp only [strsOf] at e
    cases q : strsOf ds with
    | none => rw [q] at e; exact nomatch e
    | some ys =>
      rw [q] at e
      simp only [Option.map_some, Option.some.injEq] at e
      subst e
      cases r
      rw [rep_strs rr q]
      rfl
  | .non :: _, _, _, _, e => nomatch e
  | .bl _ :: _, _, _, _, e => nomatch e
  | .int _ :: _, _, _, _, e => nomatch e
  | .tup _ :: _, _, _, _, e => nomatch e
  | .lst _ :: _, _, _, _, e => nomatch e
  | .dct _ _ :: _, _, _, _, e => nomatch e
  | .ob _ :: _, _, _, _, e => nomatch e
  | .fn _ :: _, _, _, _, e => nomatch e
  | .ev _ _ _ :: _, _, _, _, e => nomatch e
def eLenSet (f : E) : E := fun δ s => (f δ s).bind fun d s1 => match rsv s1 d with
  | .lst ds => (match strsOf ds with
    | some xs => if xs.length ≤ 4000 then .ok (.int (unl xs xs.length : Nat)) s1 else .stk
    | none => .stk)
  | _ => .stk
section
variable {X : Cx} {C : Cc}
theorem se_lenSet {a : Expr} {fa : E} {p p2 q pos : Pos} (hg : Gl X "len") (hm : X.mg "len" = none) (hg2 : Gl X "set") (hm2 : X.mg "set" = none) (ha : SE X C a fa) (hc : X.calm = true := by rfl)
    (na : starEach [a] X.env = (false, eval a X.env) :: starEach [] X.env := by rfl) : SE X C (.Call (.Name "len" p) [.Call (.Name "set" p2) [a] [] q] [] pos) (eLenSet fa) :=
  pe_weak (pe_lenSetS hg hm hg2 hm2 ha hc na) fun σ H Q ⟨δ, v, re, eH, h⟩ => ⟨δ, v, re, eH, on_mono (on_bind h) fun d x v1 l1 s1 r1 h1 => by
    have t := r1.top s1
    cases z : rsv v1.st d with
    | lst ds =>
      rw [z] at h1 t
      cases t with
      | @lst a vs _ pp qq =>
        simp only at h1
        cases y : strsOf ds with
        | none => rw [y] at h1; exact h1.elim
        | some xs =>
          rw [y] at h1
          simp only at h1
          split at h1
          · rename_i hl
            have e := rep_strs qq y
            subst e
            exact ⟨a, xs, rfl, pp, hl, h1 _ v1 .refl s1 rfl (.int _)⟩
          · exact h1.elim
    | _ => rw [z] at h1; exact h1.elim⟩
end
@[simp] theorem v_eLenSet (f : E) (δ : Sl) (s : Sto) : eLenSet f δ s = (f δ s).bind fun d s1 => match rsv s1 d with
  | .lst ds => (match strsOf ds with
    | some xs => if xs.length ≤ 4000 then .ok (.int (unl xs xs.length : Nat)) s1 else .stk
    | none => .stk)
  | _ => .stk := id rfl
end Gs

set_option maxHeartbeats 200000
set_option maxHeartbeats 1000000
/-! GE: enumerate of a list or a tuple. -/
namespace Gs
open PySem PySem.Spec PyProof.Rows L2
theorem meets_enum_tup (l : Addr) (items : Array Value) :
    Meets (Builtin.«enumerate.__new__» ⟨[.type "enumerate", .ref l], []⟩) (fun _ R s => s.heap.IsTuple l items ∧
      R (.ok (.ret (.ref (s.heap.push { cls := .type "tuple_iterator", data := .fields #[.ref l, .int 0 0] }).objs.size)))
        { s with heap := (s.heap.push { cls := .type "tuple_iterator", data := .fields #[.ref l, .int 0 0] }).push { cls := .type "enumerate", data := .fields #[.none, .bool false, .ref s.heap.objs.size, rawInt 0, .none, .none] } }) :=
  .of_wp fun prog w A R s h => by
    obtain ⟨hp, g, d, tk, os⟩ := s
    obtain ⟨hl, h⟩ := h
    have hsub := sub_enumerate
    have hL : Heap.IsTuple (Shared.heap ⟨hp, g, d, tk, os⟩) l items := hl
    wp_walk
    refine wpAny_stack_any fun st => wpAny_pure ?_
    split
    · rename_i c _ _ _ _ _
      cases (c == Value.type "enumerate")
      · wp_walk using wpAny_pyIter_tuple hL
        exact ⟨_, rfl, h⟩
      · wp_walk using wpAny_pyIter_tuple hL
        exact ⟨_, rfl, h⟩
    · wp_walk using wpAny_pyIter_tuple hL
      exact ⟨_, rfl, h⟩
section
variable {prog : Program} {w : World} {A : Around} {E : Value → Shared → Prop} {s : Shared}
theorem call_enum_tup {l : Addr} {items : Array Value} {Q : Value → Shared → Prop} (hL : s.heap.IsTuple l items)
    (h : ∀ h', IsEnum h' (s.heap.objs.size + 1) s.heap.objs.size 0 .none → h'.IsTupleIter s.heap.objs.size l 0 →
      (∀ b o, s.heap.get? b = some o → h'.get? b = some o) → Q (.ref (s.heap.objs.size + 1)) { s with heap := h' }) :
    wpAny (model prog w) A (call (.type "enumerate") [.ref l]) Q E s := by
  refine callType_new F.called_enumerate (by decide) (F.typeCall_enumerate_1 _) (F.newCall_enumerate_1 _) (fun obj => F.args_object_init_2 obj _) F.entry_enumerate_new
    (meets_enum_tup l items) ⟨hL, ?_⟩
  have hz : (s.heap.push { cls := .type "tuple_iterator", data := .fields #[.ref l, .int 0 0] }).objs.size = s.heap.objs.size + 1 := Heap.size_push ..
  show _ ∧ _
  rw [hz]
  have he := Heap.get?_push_size (s.heap.push { cls := .type "tuple_iterator", data := .fields #[.ref l, .int 0 0] })
    (o := { cls := .type "enumerate", data := .fields #[.none, .bool false, .ref s.heap.objs.size, rawInt 0, .none, .none] }) rfl
  rw [hz] at he
  exact ⟨⟨_, he, rfl⟩, h _ he ⟨_, Heap.get?_push_of_some _ (Heap.get?_push_size _ rfl), rfl, rfl⟩ fun b o x => Heap.get?_push_of_some _ (Heap.get?_push_of_some _ x)⟩
end
/-- the tuple at a, each item in a new pair with its place -/
def IteT (K : PySem.W.Frag) (a : Addr) : It :=
  ⟨fun i H => ∃ (xs : List V) (x : V), SqT K H a xs ∧ xs[i]? = some x, fun i H v H' => ∃ T x, v = .ref T ∧ H T = none ∧ H' = upd H T (.tup [.int (i : Nat), x]) ∧ ∀ xs, SqT K H a xs → xs[i]? = some x, fun i H => ∃ xs : List V, SqT K H a xs ∧ xs.length ≤ i⟩
theorem turn_enumT {P : Program} {w : World} {K : PySem.W.Frag} {elts : List Expr} {kk : Nat} {tpos : Pos} (a e it : Addr) (hea : e ≠ a) (hai : a ≠ it) (hne : e ≠ it) :
    Turn P w K (.Tuple elts kk tpos) (IteT K a) [e, it] e (fun i h => (∃ old, IsEnum h e it ((i : Nat) : Int) old) ∧ h.IsTupleIter it a i) where
  mem := by simp
  obj := fun i h st b hb => by
    obtain ⟨⟨old, he⟩, ⟨o, ho, hc, hd⟩⟩ := st
    have e' : b = e ∨ b = it := by simpa using hb
    rcases e' with z | z
    · rw [z]; exact ⟨_, he, fun v q => nomatch q⟩
    · rw [z]; exact ⟨o, ho, fun v q => by rw [hd] at q; cases q⟩
  keep := fun i h h' st k => by
    obtain ⟨⟨old, he⟩, ⟨o, ho, r⟩⟩ := st
    exact ⟨⟨old, k e (by simp) _ he⟩, ⟨o, k it (by simp) o ho, r⟩⟩
  item := by
    intro X hP hw hK hc i pins s σ H E I hf st hg
    subst hP hw hK
    obtain ⟨⟨old, he⟩, hit⟩ := st
    obtain ⟨xs, x, hq, hx⟩ := hg
    obtain ⟨its, rv, p, hz⟩ := I.tuple hq
    obtain ⟨u, hu, ru⟩ := rv.get hx
    have hp : s.heap.IsTuple a its.toArray := p
    have hel : e < s.heap.objs.size := Heap.lt_size he
    have hil : it < s.heap.objs.size := by obtain ⟨_, q, _⟩ := hit; exact Heap.lt_size q
    have hu2 : its.toArray[i]? = some u := by simpa using hu
    have hlt : i < its.toArray.size := (Array.getElem?_eq_some_iff.mp hu2).1
    refine wpAny_pyNext_enum_itemD (Draws.tuple (A := X.A.in1) (I.ok.hd hc) it a hai its.toArray) he ⟨hit, hp⟩ hlt hne (by simp [hne, hea]) fun x' h' tk hx' ho st' hT hsz hk => ?_
    obtain ⟨hit', _⟩ := st'
    have hxu : x' = u := by rw [hu2] at hx'; exact (Option.some.inj hx').symm
    subst hxu
    refine ⟨_, rfl, wpAny_letOwnedTupleGo_enum (s := { s with heap := h', toks := tk + 1 }) ho fun h'' he' sb => ?_⟩
    have hT2 : h''.get? s.heap.objs.size = some { cls := .type "tuple", data := .seq #[.int i tk, x'] } := (sb.2 _ (Nat.ne_of_gt hel)).trans hT
    have new : ObjOk X.prog X.w (upd H s.heap.objs.size (.tup [.int (i : Nat), x])) h'' s.heap.objs.size (.tup [.int (i : Nat), x]) :=
      ⟨by show 2 ≤ sizeLine; decide, [.int i tk, x'], .cons ⟨_, rfl⟩ (.cons ru .nil), ⟨_, hT2, rfl, _, rfl⟩⟩
    have I1 : Inv X pins σ (upd H s.heap.objs.size (.tup [.int (i : Nat), x])) { s with heap := h'', toks := tk + 1 } :=
      I.turnedNew (ch := [e, it]) (fun b ob hb q => (sb.2 b (fun z => hb (by simp [z]))).trans (hk b ob (fun z => hb (by simp [z])) (fun z => hb (by simp [z])) q)) hf (Nat.le_refl _) new
    refine ⟨.ref s.heap.objs.size, _, I1, rfl, ⟨_, x, rfl, I.hok.fresh (Nat.le_refl _), rfl, fun ys hy => by rw [I.tuple_inj hy hq]; exact hx⟩, ⟨⟨x', ?_⟩, ?_⟩, fun b hb => ?_⟩
    · have e1 : ((i + 1 : Nat) : Int) = (i : Int) + 1 := by omega
      rw [e1]; exact he'
    · obtain ⟨o, ho2, r⟩ := hit'
      exact ⟨o, (sb.2 it (Ne.symm hne)).trans ho2, r⟩
    · have hb' : b < s.heap.objs.size := by
        have e' : b = e ∨ b = it := by simpa using hb
        rcases e' with z | z
        · rw [z]; exact hel
        · rw [z]; exact hil
      rw [upd_ne (Nat.ne_of_lt hb')]
      exact (hf b hb).1
  done := by
    intro X hP hw hK hc i pins s σ H E I hf st hg
    subst hP hw hK
    obtain ⟨⟨old, he⟩, hit⟩ := st
    obtain ⟨xs, hq, hx⟩ := hg
    obtain ⟨its, rv, p, hz⟩ := I.tuple hq
    have hp : s.heap.IsTuple a its.toArray := p
    obtain ⟨f0, f1, f2, f3, f4, f5⟩ := hf it (by simp)
    have hl := rv.length
    have hT : s.TypeIs (.ref e) "enumerate" := ⟨_, he, rfl⟩
    unfold pyNext
    refine wpAny_bind (wpAny_attempt (wpAny_callSpecial?_slot (name := Str.ofString "__next__") hT F.slot_enumerate_next
      (wpAny_call_entry F.slot_enumerate_next hT F.entry_enumerate_next ?_ (F.args_enumerate_next_1 _))))
    show wpAny _ _ (field (.ref e) 2 >>= _) _ _ _
    refine wpAny_bind (wpAny_field he rfl (x := .ref it) rfl ?_)
    refine wpAny_bind (RZ.nextOf_tuple_end (A := X.A.in1) (I.ok.hd hc) hit hp (by simp; omega) fun h' x he' hx' => ?_)
    obtain ⟨o, ho, hcc⟩ := hx'
    refine wpAny_bind (wpAny_isInstance (T := "StopIteration") (b := true) ⟨o, ho, hcc⟩ isSubtype_stop ?_)
    exact wpAny_pure ⟨rfl, I.turned (t' := s.toks) (fun b o hb q => he' b o hb q) f0 f1 f3 f4 f5⟩
  self := fun A i s Q E st h => let ⟨⟨_, he⟩, _⟩ := st; wpAny_pyIter_enum he h
def iEnumA (K : PySem.W.Frag) (ta : TA) : TI := fun σ H R => ta σ H fun vs H1 => ∃ a xs, vs = [.ref a] ∧ ((SqL K H1 a xs ∧ R (Ite K a) H1) ∨ (SqT K H1 a xs ∧ R (IteT K a) H1))
theorem pi_enumA {X : Cx} {e : Expr} {ta : TA} {p pos tpos : Pos} {elts : List Expr} {kk : Nat} (hg : Gl X "enumerate") (hm : X.mg "enumerate" = none) (ha : PA X [e] ta) (hs : starEach [e] X.env = [(false, eval e X.env)] := by rfl) :
    PI X (.Tuple elts kk tpos) (.Call (.Name "enumerate" p) [e] [] pos) (iEnumA X.K ta) := by
  refine ⟨fun pins s σ H R I h => ?_⟩
  refine Call_ (ld_blt I hg hm boot_enumerate (PyProof.Rows.callWith_type1 (thn (ha.run pos pins s σ H _ I h) fun us s1 ⟨vs, H1, I1, r1, q1⟩ => ?_) hs rfl))
  obtain ⟨a, xs, ex, q1⟩ := q1
  subst ex
  cases r1 with
  | cons r rr =>
    cases rr
    cases r
    have fr : ∀ b ∈ [s1.heap.objs.size + 1, s1.heap.objs.size], FpOk X pins H1 b := fun b hb => by
      have e' : b = s1.heap.objs.size + 1 ∨ b = s1.heap.objs.size := by simpa using hb
      have hle : s1.heap.objs.size ≤ b := by
        rcases e' with z | z
        · rw [z]; exact Nat.le_add_right _ _
        · rw [z]; exact Nat.le_refl _
      exact I1.fpOk hle (I1.hok.fresh hle)
    rcases q1 with ⟨hq, q⟩ | ⟨hq, q⟩
    · obtain ⟨its, rv, p', hz⟩ := I1.list hq
      refine call_enumerate_list p'.isList fun h' he hit hsz hk => wpAny_pyIter_enum he ?_
      have I2 : Inv X pins σ H1 { s1 with heap := h' } := I1.kept (t' := s1.toks) hk
      exact ⟨s1.heap.objs.size + 1, [s1.heap.objs.size + 1, s1.heap.objs.size], _, _, H1, rfl, I2, turn_enum a (s1.heap.objs.size + 1) s1.heap.objs.size, ⟨⟨.none, he⟩, hit, Nat.succ_ne_self _⟩, fr, q⟩
    · obtain ⟨its, rv, p', hz⟩ := I1.tuple hq
      have hp : s1.heap.IsTuple a its.toArray := p'
      obtain ⟨ol, hol, _⟩ := id hp
      have hlt : a < s1.heap.objs.size := Heap.lt_size hol
      refine call_enum_tup hp fun h' he hit hk => wpAny_pyIter_enum he ?_
      have I2 : Inv X pins σ H1 { s1 with heap := h' } := I1.kept (t' := s1.toks) hk
      exact ⟨s1.heap.objs.size + 1, [s1.heap.objs.size + 1, s1.heap.objs.size], _, _, H1, rfl, I2, turn_enumT a (s1.heap.objs.size + 1) s1.heap.objs.size (Nat.ne_of_gt (Nat.lt_succ_of_lt hlt)) (Nat.ne_of_lt hlt) (Nat.succ_ne_self _), ⟨⟨.none, he⟩, hit⟩, fr, q⟩
section
variable {K : PySem.W.Frag} {ct : String → Addr} {v : Vw}
theorem itOk_enumT {a : Addr} {vs : List V} {ds : List D} (h : SqT K v.G a vs) (r : RepL K ct v.G v.m ds vs) : ItOk K ct (IteT K a) v (enumD ds) where
  go := fun i w l s hi => by
    have hi' : i < ds.length := by simpa [enumD] using hi
    obtain ⟨x, e, _⟩ := r.get (List.getElem?_eq_getElem hi')
    exact ⟨vs, x, sqt_mono s.sub (sqt_mono l.g h), e⟩
  stop := fun i w l s hi => by
    have : ds.length ≤ i := by simpa [enumD] using hi
    exact ⟨vs, sqt_mono s.sub (sqt_mono l.g h), by rw [← r.length]; exact this⟩
  yld := fun i w z H' l s hi y => by
    have hi' : i < ds.length := by simpa [enumD] using hi
    obtain ⟨x, e, rv⟩ := r.get (List.getElem?_eq_getElem hi')
    obtain ⟨T, x', rfl, hT, rfl, y2⟩ := y
    have z2 := y2 vs (sqt_mono s.sub (sqt_mono l.g h))
    rw [e] at z2
    cases z2
    obtain ⟨l2, s2⟩ := new_ok (o := .tup [.int (i : Nat), x]) s hT
    exact ⟨.tup [.int (i : Nat), ds[i]], w.new T (.tup [.int (i : Nat), x]), by simp [enumD, hi'], rfl, l2, s2, rfl, .tup (SqT.of upd_same) (.cons (.int _) (.cons (l2.rep (l.rep rv)) .nil))⟩
end
def iEnumX (a : As) : As := fun δ s => (a δ s).bind fun ds s1 => match ds with
  | [.lst xs] => .ok (enumD xs) s1
  | [.tup xs] => .ok (enumD xs) s1
  | _ => .stk
section
variable {X : Cx} {C : Cc}
theorem si_enumX {e : Expr} {f : As} {p pos tpos : Pos} {elts : List Expr} {kk : Nat} (hg : Gl X "enumerate") (hm : X.mg "enumerate" = none) (ha : SA X C [e] f) (hs : starEach [e] X.env = [(false, eval e X.env)] := by rfl) :
    SI X C (.Tuple elts kk tpos) (.Call (.Name "enumerate" p) [e] [] pos) (iEnumX f) :=
  pi_weak (pi_enumA hg hm ha hs) fun σ H R ⟨δ, v, re, eH, h⟩ => ⟨δ, v, re, eH, on_mono (on_bind h) fun ds vs v1 l1 s1 r1 h1 => by
    split at h1
    · cases r1 with
      | cons r2 r3 =>
        cases r3
        cases r2 with
        | @lst _ _ a us _ pp q => exact ⟨a, us, rfl, .inl ⟨s1.sub.seq pp, on_self s1 h1 (itOk_enum pp q)⟩⟩
    · cases r1 with
      | cons r2 r3 =>
        cases r3
        cases r2 with
        | @tup _ _ a us _ pp q => exact ⟨a, us, rfl, .inr ⟨sqt_mono s1.sub pp, on_self s1 h1 (itOk_enumT pp q)⟩⟩
    · exact h1.elim⟩
end
@[simp] theorem v_iEnumX (a : As) (δ : Sl) (s : Sto) : iEnumX a δ s = (a δ s).bind fun ds s1 => match ds with | [.lst xs] => .ok (enumD xs) s1 | [.tup xs] => .ok (enumD xs) s1 | _ => .stk := id rfl
end Gs

set_option maxHeartbeats 200000
/-! GFo: walks over lists of the store (each turn asks that the list is still as it was), in for and in list comprehensions. -/
namespace Gs
open PySem PySem.Spec PyProof.Rows L2
/-- the things that are walked, and the place in the store, where they stand in a list of it -/
abbrev Wk := List D × Option Nat
def Stl (q : Wk) (s : Sto) : Prop := ∀ k, q.2 = some k → s[k]? = some (.lst q.1)
abbrev AsO := Sl → Sto → R Wk
structure ItO (K : PySem.W.Frag) (ct : String → Addr) (J : It) (v : Vw) (q : Wk) : Prop where
  go : ∀ i w, Le v w → SR K ct w → Stl q w.st → i < q.1.length → J.go i w.H
  stop : ∀ i w, Le v w → SR K ct w → Stl q w.st → q.1.length ≤ i → J.stop i w.H
  yld : ∀ i w x H', Le v w → SR K ct w → Stl q w.st → i < q.1.length → J.yld i w.H x H' → ∃ d w2, q.1[i]? = some d ∧ w2.H = H' ∧ Le w w2 ∧ SR K ct w2 ∧ w2.st = w.st ∧ Rep K ct w2.G w2.m d x
abbrev rIO (K : PySem.W.Frag) (ct : String → Addr) : Wk → It → Vw → Prop := fun q J v => ItO K ct J v q
def liftIO (K : PySem.W.Frag) (C : Cc) (f : AsO) : TI := fun σ H P => ∃ δ v, RE K C σ δ v ∧ v.H = H ∧ on K C σ v (rIO K C.ct) (f δ v.st) fun _ J v' => P J v'.H
abbrev SIO (X : Cx) (C : Cc) (tg e : Expr) (f : AsO) : Prop := PI X tg e (liftIO X.K C f)
open Classical in
noncomputable def forO (q : Wk) (p : Pt) (body : S) : List D → Sl → Sto → RS
  | [], δ, s => if Stl q s then .nx δ s else .stk
  | d :: ds, δ, s => if Stl q s then (match bindP p d δ with
    | none => .stk
    | some δ1 => match body δ1 s with
      | .nx δ2 s2 => forO q p body ds δ2 s2
      | .ct δ2 s2 => forO q p body ds δ2 s2
      | .bk δ2 s2 => .nx δ2 s2
      | r => r) else .stk
noncomputable def sForO (it : AsO) (p : Pt) (body : S) : S := fun δ s => sBind (it δ s) δ fun q s1 => forO q p body q.1 δ s1
open Classical in
noncomputable def lcO (q : Wk) (p : Pt) (c : T) (e : E) (δ : Sl) : List D → Sto → R (List D)
  | [], s => if Stl q s then .ok [] s else .stk
  | d :: ds, s => if Stl q s then (match bindP p d δ with
    | none => .stk
    | some δ1 => match c δ1 s with
      | .ok true s1 => (match e δ1 s1 with
        | .ok y s2 => (match lcO q p c e δ ds s2 with
          | .ok r s3 => .ok (y :: r) s3
          | _ => .stk)
        | _ => .stk)
      | .ok false s1 => lcO q p c e δ ds s1
      | _ => .stk) else .stk
theorem lcO_exc {q : Wk} {p : Pt} {c : T} {e : E} {δ : Sl} : ∀ (ds : List D) (s : Sto) (ex : Ex) (s' : Sto), lcO q p c e δ ds s ≠ .exc ex s'
  | [], s, ex, s', z => by
    simp only [lcO] at z
    split at z <;> exact nomatch z
  | d :: ds, s, ex, s', z => by
    simp only [lcO] at z
    split at z
    · split at z
      · exact nomatch z
      · split at z
        · split at z
          · split at z <;> exact nomatch z
          · exact nomatch z
        · exact lcO_exc ds _ _ _ z
        · exact nomatch z
    · exact nomatch z
noncomputable def fLcO (it : AsO) (vs : List Nat) (p : Pt) (c : T) (e : E) : Fr := fun δ s => (it δ s).bind fun q s1 => (lcO q p c e (wipeD δ vs) q.1 s1).bind fun xs s2 => if xs.length ≤ sizeLine then .ok xs s2 else .stk
section
variable {X : Cx} {C : Cc} {pos : Pos} {tg iter : Expr}
theorem ss_forO {body : List Stmt} {f : AsO} {p : Pt} {fb : S} (hp : PassesOwn (model X.prog X.w) X.A X.env X.xe) (hc : X.calm = true) (hi : SIO X C tg iter f) (hg : SG X C tg p) (hb : SSs X C body fb)
    (hs : ∀ x, foldedSetIterable iter X.env x = pure x := by intro _; rfl) : SS X C (.For tg iter body [] pos) (sForO f p fb) := ps_weak (ps_for hp hc hi hg hb hs) fun Dn σ H ⟨δ, v, re, eH, h⟩ => by
  refine ⟨δ, v, re, eH, on_mono (onS_R re h) fun wk J v1 l1 s1 ok h0 => ?_⟩
  obtain ⟨items, hit⟩ : ∃ items, wk.1 = items := ⟨_, rfl⟩
  refine ⟨fun i m σ H => m = items.length - i ∧ i ≤ items.length ∧ ∃ δ w, RE X.K C σ δ w ∧ w.H = H ∧ Le v1 w ∧ onS X.K C w (forO wk p fb (items.drop i) δ w.st) Dn, ⟨items.length, by simp, Nat.zero_le _, δ, v1, re.step l1 s1, rfl, .refl, by have h0 : onS X.K C v1 (forO wk p fb wk.1 δ v1.st) Dn := h0; rw [hit] at h0; exact h0⟩, ?_⟩
  rintro i m σ2 H2 ⟨rfl, hi, δ2, w, re2, rfl, lw, q⟩
  have hst : Stl wk w.st := by
    cases e9 : items.drop i with
    | nil =>
      rw [e9] at q
      simp only [forO] at q
      by_cases z : Stl wk w.st
      · exact z
      · rw [if_neg z] at q; exact q.elim
    | cons d ds =>
      rw [e9] at q
      simp only [forO] at q
      by_cases z : Stl wk w.st
      · exact z
      · rw [if_neg z] at q; exact q.elim
  by_cases hlt : i < items.length
  · refine .inr ⟨ok.go i w lw re2.sr hst (by rw [hit]; exact hlt), fun σ H => ∃ δ w, RE X.K C σ δ w ∧ w.H = H ∧ Le v1 w ∧ onS X.K C w (forO wk p fb (items.drop (i + 1)) δ w.st) Dn, fun σ' H' n => ⟨items.length - (i + 1), by omega, rfl, hlt, n⟩, fun x H' y => ?_⟩
    obtain ⟨d, w3, ed, rfl, l3, s3, e3, r3⟩ := ok.yld i w x H' lw re2.sr hst (by rw [hit]; exact hlt) y
    rw [hit] at ed
    have ed2 : items.drop i = d :: items.drop (i + 1) := by
      rw [List.drop_eq_getElem_cons hlt]
      rw [List.getElem?_eq_getElem hlt] at ed
      rw [Option.some.inj ed]
    rw [ed2] at q
    simp only [forO] at q
    rw [if_pos hst] at q
    cases eb : bindP p d δ2 with
    | none => rw [eb] at q; exact q.elim
    | some δ3 =>
      rw [eb] at q
      refine ⟨d, δ2, w3, δ3, re2.step l3 s3, rfl, r3, eb, fun σ4 re4 _ => ⟨δ3, w3, re4, rfl, ?_⟩⟩
      simp only at q
      rw [e3]
      cases ef : fb δ3 w.st with
      | nx δ4 s4 => rw [ef] at q; exact fun σ' w' re' l' es => ⟨δ4, w', re', rfl, (lw.trans l3).trans l', by subst es; exact onS_same (l3.trans l') q⟩
      | ct δ4 s4 => rw [ef] at q; exact fun σ' w' re' l' es => ⟨δ4, w', re', rfl, (lw.trans l3).trans l', by subst es; exact onS_same (l3.trans l') q⟩
      | bk δ4 s4 => rw [ef] at q; exact fun σ' w' re' l' es => q σ' w' re' (l3.trans l') es
      | rt d s4 => rw [ef] at q; exact q
      | exc e4 δ4 s4 => rw [ef] at q; exact fun cls dd σ' w' re' l' es rx => q cls dd σ' w' re' (l3.trans l') es rx
      | stk => rw [ef] at q; exact q
  · have ei : i = items.length := by omega
    subst ei
    rw [List.drop_length] at q
    simp only [forO] at q
    rw [if_pos hst] at q
    exact .inl ⟨ok.stop _ w lw re2.sr hst (by rw [hit]; exact Nat.le_refl _), q σ2 w re2 .refl rfl⟩


/-! ### what is walked -/
theorem itO_of {K : PySem.W.Frag} {ct : String → Addr} {J : It} {v : Vw} {items : List D} (h : ItOk K ct J v items) : ItO K ct J v (items, none) where
  go := fun i w l s _ hi => h.go i w l s hi
  stop := fun i w l s _ hi => h.stop i w l s hi
  yld := fun i w x H' l s _ hi y => h.yld i w x H' l s hi y
theorem itO_own {K : PySem.W.Frag} {ct : String → Addr} {v : Vw} {a : Addr} {k : Nat} {items : List D} (h : v.m k = some a) : ItO K ct (Itl K a) v (items, some k) where
  go := fun i w l s st hi => by
    obtain ⟨a', em, _, vs, hh, r⟩ := s.obj k _ (st k rfl) rfl
    rw [l.m k a h] at em
    cases em
    obtain ⟨x, e, _⟩ := r.get (List.getElem?_eq_getElem hi)
    exact ⟨vs, x, SqL.of hh, e⟩
  stop := fun i w l s st hi => by
    obtain ⟨a', em, _, vs, hh, r⟩ := s.obj k _ (st k rfl) rfl
    rw [l.m k a h] at em
    cases em
    exact ⟨vs, SqL.of hh, by rw [← r.length]; exact hi⟩
  yld := fun i w x H' l s st hi y => by
    obtain ⟨a', em, _, vs, hh, r⟩ := s.obj k _ (st k rfl) rfl
    rw [l.m k a h] at em
    cases em
    obtain ⟨x', e, rv⟩ := r.get (List.getElem?_eq_getElem hi)
    obtain ⟨rfl, y2⟩ := y
    have z := y2 vs (SqL.of hh)
    rw [e] at z
    cases z
    exact ⟨_, w, List.getElem?_eq_getElem hi, rfl, .refl, s, rfl, rv⟩
def wkOf (s : Sto) (d : D) : Option Wk := match d with
  | .ob k => (match s[k]? with
    | some (.lst xs) => some (xs, some k)
    | _ => none)
  | d => (seqOf d).map fun xs => (xs, none)
def iSeqO (f : E) : AsO := fun δ s => (f δ s).bind fun d s1 => R.ofO (wkOf s1 d) s1
theorem si_seqO {e : Expr} {f : E} (he : SE X C e f) : SIO X C tg e (iSeqO f) := by
  refine ⟨fun pins s σ H Rr I ⟨δ, v, re, eH, h⟩ => ?_⟩
  unfold iSeqO at h
  have hz := on_bind (rel := rE X.K C.ct) h
  cases q : f δ v.st with
  | stk => rw [q] at hz; exact hz.elim
  | exc e s1 => exact (pi_list he).run pins s σ H Rr I ⟨δ, v, re, eH, by rw [q] at hz ⊢; exact hz⟩
  | ok d s1 =>
    rw [q] at hz
    have go : ∀ (P : V → Vw → Prop), (∀ x v1, Le v v1 → SR X.K C.ct v1 → v1.st = s1 → Rep X.K C.ct v1.G v1.m d x → P x v1) → on X.K C σ v (rE X.K C.ct) (f δ v.st) fun _ x v' => P x v' := fun P w => by rw [q]; exact w
    cases d with
    | lst xs =>
      refine (pi_list he).run pins s σ H Rr I ⟨δ, v, re, eH, go _ fun x v1 l1 sr1 es r1 => ?_⟩
      have h9 := hz x v1 l1 sr1 es r1
      cases r1 with
      | @lst _ _ a vs _ p rl => exact ⟨a, rfl, ⟨vs, sr1.sub.seq p⟩, on_self sr1 h9 (itO_of (itOk_list p rl))⟩
    | tup xs =>
      refine (pi_tup he).run pins s σ H Rr I ⟨δ, v, re, eH, go _ fun x v1 l1 sr1 es r1 => ?_⟩
      have h9 := hz x v1 l1 sr1 es r1
      cases r1 with
      | @tup _ _ a vs _ p rl => exact ⟨a, rfl, ⟨vs, sqt_mono sr1.sub p⟩, on_self sr1 h9 (itO_of (itOk_tup p rl))⟩
    | str z =>
      refine (pi_str he).run pins s σ H Rr I ⟨δ, v, re, eH, go _ fun x v1 l1 sr1 es r1 => ?_⟩
      have h9 := hz x v1 l1 sr1 es r1
      cases r1
      exact ⟨z, rfl, on_self sr1 h9 (itO_of itOk_str)⟩
    | ob k =>
      refine (pi_list he).run pins s σ H Rr I ⟨δ, v, re, eH, go _ fun x v1 l1 sr1 es r1 => ?_⟩
      have h9 := hz x v1 l1 sr1 es r1
      subst es
      simp only [wkOf] at h9
      split at h9
      · rename_i xs ek
        cases r1 with
        | @ob _ _ _ a em =>
          obtain ⟨a', em', _, vs, hh, _⟩ := sr1.obj k _ ek rfl
          exact ⟨a, rfl, ⟨vs, SqL.of (by rw [em] at em'; cases em'; exact hh)⟩, on_self sr1 h9 (itO_own em)⟩
      · exact h9.elim
    | _ => exact (pi_list he).run pins s σ H Rr I ⟨δ, v, re, eH, go _ fun x v1 l1 sr1 es r1 => (hz x v1 l1 sr1 es r1).elim⟩
end
section
variable {X : Cx} {C : Cc} {pos : Pos}
theorem lift_lcO {K : PySem.W.Frag} {it : AsO} {vs : List Nat} {p : Pt} {c : T} {e : E} (hp : ∀ i ∈ idxP p, i ∈ vs) {σ : L2.St} {H : Hp} {Q : VK} (h : liftF K C (fLcO it vs p c e) σ H Q) :
    tLc (liftIO K C it) (liftG K C.nox p) (liftT K C.nox c) (liftE K C.nox e) vs σ H Q := by
  obtain ⟨δ, v, re, eH, h⟩ := h
  refine ⟨δ, v, re, eH, on_mono (onF_bind h) fun wk J v1 l1 sr1 ok h1 => ?_⟩
  obtain ⟨items, hit⟩ : ∃ items, wk.1 = items := ⟨_, rfl⟩
  intro L hD
  have h2 : onF K C σ v1 ((lcO wk p c e (wipeD δ vs) items v1.st).bind fun xs s2 => if xs.length ≤ sizeLine then .ok xs s2 else .stk) fun _ p v' => Q (.ref p) v'.H := by
    have h1 : onF K C σ v1 ((lcO wk p c e (wipeD δ vs) wk.1 v1.st).bind fun xs s2 => if xs.length ≤ sizeLine then .ok xs s2 else .stk) fun _ p v' => Q (.ref p) v'.H := h1
    rw [hit] at h1
    exact h1
  clear h1
  cases q1 : lcO wk p c e (wipeD δ vs) items v1.st with
  | stk => rw [q1] at h2; exact h2.elim
  | exc ex s' => exact absurd q1 (lcO_exc _ _ _ _)
  | ok xs s9 =>
    rw [q1] at h2
    have h3 : xs.length ≤ sizeLine ∧ ∀ (va : List V) (v2 : Vw), Le v1 v2 → SR K C.ct v2 → v2.st = s9 → Aside v2 L va → RepL K C.ct v2.G v2.m xs va → Q (.ref L) v2.H := by
      have h4 : onF K C σ v1 (if xs.length ≤ sizeLine then .ok xs s9 else .stk) fun _ p v' => Q (.ref p) v'.H := h2
      by_cases z : xs.length ≤ sizeLine
      · rw [if_pos z] at h4
        exact ⟨z, fun va v2 l2 s2 es a2 ra => h4 L va v2 l2 s2 es hD a2.g a2.h a2.no ra⟩
      · rw [if_neg z] at h4
        exact h4.elim
    obtain ⟨hz, fin⟩ := h3
    clear h2
    have start : ∃ v2, v2.H = upd v1.H L (.lst []) ∧ Le v1 v2 ∧ SR K C.ct v2 ∧ Aside v2 L [] ∧ v2.st = v1.st := by
      obtain ⟨l2, s2, no⟩ := newH (u := .lst []) sr1 hD
      exact ⟨⟨v1.G, upd v1.H L (.lst []), v1.m, v1.st⟩, rfl, l2, s2, ⟨upd_same, sr1.free hD, no⟩, rfl⟩
    refine ⟨fun i m H2 => m = items.length - i ∧ i ≤ items.length ∧ ∃ (v2 : Vw) (acc rest : List D) (va : List V), v2.H = H2 ∧ Le v1 v2 ∧ SR K C.ct v2 ∧ Aside v2 L va ∧ RepL K C.ct v2.G v2.m acc va ∧
      lcO wk p c e (wipeD δ vs) (items.drop i) v2.st = .ok rest s9 ∧ acc ++ rest = xs, ?_, ?_⟩
    · obtain ⟨v2, e2, l2, s2, a2, es⟩ := start
      exact ⟨items.length, by simp, Nat.zero_le _, v2, [], xs, [], e2, l2, s2, a2, .nil, by rw [es]; exact q1, rfl⟩
    rintro i m H2 ⟨rfl, hi, v2, acc, rest, va, rfl, l2, s2, a2, ra, el, ex⟩
    have hst : Stl wk v2.st := by
      cases e9 : items.drop i with
      | nil =>
        rw [e9] at el
        simp only [lcO] at el
        by_cases z : Stl wk v2.st
        · exact z
        · rw [if_neg z] at el; exact nomatch el
      | cons d ds =>
        rw [e9] at el
        simp only [lcO] at el
        by_cases z : Stl wk v2.st
        · exact z
        · rw [if_neg z] at el; exact nomatch el
    by_cases hlt : i < items.length
    · refine .inr ⟨ok.go i v2 l2 s2 hst (by rw [hit]; exact hlt), fun H3 => ∃ (v2 : Vw) (acc rest : List D) (va : List V), v2.H = H3 ∧ Le v1 v2 ∧ SR K C.ct v2 ∧ Aside v2 L va ∧ RepL K C.ct v2.G v2.m acc va ∧
        lcO wk p c e (wipeD δ vs) (items.drop (i + 1)) v2.st = .ok rest s9 ∧ acc ++ rest = xs, fun H' n => ⟨items.length - (i + 1), by omega, rfl, hlt, n⟩, fun x H' y => ?_⟩
      obtain ⟨d, v3, ed, rfl, l3, s3, e3, r3⟩ := ok.yld i v2 x H' l2 s2 hst (by rw [hit]; exact hlt) y
      rw [hit] at ed
      have ed2 : items.drop i = d :: items.drop (i + 1) := by
        rw [List.drop_eq_getElem_cons hlt]
        rw [List.getElem?_eq_getElem hlt] at ed
        rw [Option.some.inj ed]
      rw [ed2] at el
      simp only [lcO] at el
      rw [if_pos hst] at el
      cases eb : bindP p d (wipeD δ vs) with
      | none => rw [eb] at el; exact nomatch el
      | some δ1 =>
        rw [eb] at el
        simp only at el
        have re3 := (((re.step l1 sr1).step l2 s2).step l3 s3)
        refine ⟨d, wipeD δ vs, v3, δ1, (re3.wipe vs).wish _, rfl, r3, eb, fun σ4 re4 o4 => ⟨wipe_off o4 hp, δ1, v3, re4, rfl, ?_⟩⟩
        rw [e3]
        cases ec : c δ1 v2.st with
        | stk => rw [ec] at el; exact nomatch el
        | exc _ _ => rw [ec] at el; exact nomatch el
        | ok b s4 =>
          rw [ec] at el
          intro b2 v4 l4 s4' es4 eb2
          cases eb2
          cases b with
          | true =>
            rw [if_pos rfl]
            simp only at el
            refine ⟨δ1, v4, re4.step l4 s4', rfl, ?_⟩
            rw [es4]
            cases ee : e δ1 s4 with
            | stk => rw [ee] at el; exact nomatch el
            | exc _ _ => rw [ee] at el; exact nomatch el
            | ok y0 s5 =>
              rw [ee] at el
              intro y5 v5 l5 s5' es5 r5
              simp only at el
              cases er : lcO wk p c e (wipeD δ vs) (items.drop (i + 1)) s5 with
              | stk => rw [er] at el; exact nomatch el
              | exc _ _ => rw [er] at el; exact nomatch el
              | ok rest2 s6 =>
                rw [er] at el
                simp only [R.ok.injEq] at el
                obtain ⟨el, es6⟩ := el
                subst el
                subst es6
                have l25 := (l3.trans l4).trans l5
                have a5 := a2.step l25
                have hl := ra.length
                have hl2 : acc.length + (rest2.length + 1) = xs.length := by rw [← ex]; simp
                obtain ⟨s7, ow7⟩ := side_ok (u := .lst (va ++ [y5])) s5' a5.g a5.no
                refine ⟨va, a5.h, by omega, ⟨v5.G, upd v5.H L (.lst (va ++ [y5])), v5.m, v5.st⟩, acc ++ [y0], rest2, va ++ [y5], rfl, ?_, s7, ⟨upd_same, a5.g, fun q => a5.no (ow7 _ q)⟩, (l25.repl ra).append (RepL.one r5), ?_, by rw [List.append_assoc]; exact ex⟩
                · have l15 := l2.trans l25
                  exact ⟨l15.g, l15.m, fun b o hb nb => by
                    show upd v5.H L _ b = some o
                    rw [upd_ne (ne_of_none hb hD)]
                    exact l15.h b o hb nb, l15.nw, fun b q => l15.ow b (ow7 b q), fun b q => by
                    have q' : upd v5.H L (.lst (va ++ [y5])) b = none := q
                    by_cases z : b = L
                    · rw [z, upd_same] at q'; cases q'
                    · rw [upd_ne z] at q'
                      exact l15.al b q'⟩
                · show lcO wk p c e (wipeD δ vs) (items.drop (i + 1)) v5.st = .ok rest2 s6
                  rw [es5]
                  exact er
          | false =>
            rw [if_neg Bool.false_ne_true]
            simp only at el
            have l24 := l3.trans l4
            exact ⟨v4, acc, rest, va, rfl, l2.trans l24, s4', a2.step l24, l24.repl ra, by rw [es4]; exact el, ex⟩
    · have ei : i = items.length := by omega
      subst ei
      rw [List.drop_length] at el
      simp only [lcO] at el
      rw [if_pos hst] at el
      simp only [R.ok.injEq] at el
      obtain ⟨el, es⟩ := el
      subst el
      rw [List.append_nil] at ex
      subst ex
      exact .inl ⟨ok.stop _ v2 l2 s2 hst (by rw [hit]; exact Nat.le_refl _), fin va v2 l2 s2 es a2 ra⟩
variable {elt tg iter : Expr} {ifs : List Expr} {scope : Scope} {it : AsO} {p : Pt} {c : T} {e : E}
theorem sf_lcO (own : List (Str × Nat)) (hc : X.calm = true) (hN : X.N.Nodup) (hi : SIO X C tg iter it) (ok : BlkOk X.N X.env.scope scope own) (hp : ∀ i ∈ idxP p, i ∈ own.map (·.2))
    (hg : ∀ (s : Shared) (H : Hp) (c0 : Addr) (cl : List (Str × Addr)) (fp : List Addr), SG (X.blk s H scope (compEnvC scope cl c0 X.env) fp) C.nox tg p)
    (ht : ∀ (s : Shared) (H : Hp) (c0 : Addr) (cl : List (Str × Addr)) (fp : List Addr), STs (X.blk s H scope (compEnvC scope cl c0 X.env) fp) C.nox ifs c)
    (he : ∀ (s : Shared) (H : Hp) (c0 : Addr) (cl : List (Str × Addr)) (fp : List Addr), SE (X.blk s H scope (compEnvC scope cl c0 X.env) fp) C.nox elt e) (hs : ∀ x, foldedSetIterable iter X.env x = pure x := by intro _; rfl) :
    SF X C (.ListComp elt [⟨tg, iter, ifs, 0⟩] scope pos) (fLcO it (own.map (·.2)) p c e) :=
  pe_weak (pe_lc hc hN hi ok hg ht he hs) fun σ H Q h => lift_lcO hp h
theorem ss_setLcO (i : Nat) {g : Fr → E} {y : Str} {py spos : Pos} (own : List (Str × Nat)) (hgz : ∀ σ H Q, liftE X.K C (g (fLcO it (own.map (·.2)) p c e)) σ H Q → liftF X.K C (fLcO it (own.map (·.2)) p c e) σ H Q) (hc : X.calm = true) (hN : X.N.Nodup) (hy : X.N[i]? = some y) (hyl : X.env.scope.names.lookup y = some .local)
    (hsw : swapsWith (.ListComp elt [⟨tg, iter, ifs, 0⟩] scope pos) (some (.Name y py)) spos.line X.env = pure true) (hi : SIO X C tg iter it) (ok : BlkOk X.N X.env.scope scope own) (hp : ∀ i ∈ idxP p, i ∈ own.map (·.2))
    (hg : ∀ (s : Shared) (H : Hp) (c0 : Addr) (cl : List (Str × Addr)) (fp : List Addr), SG (X.blk s H scope (compEnvC scope cl c0 X.env) fp) C.nox tg p)
    (ht : ∀ (s : Shared) (H : Hp) (c0 : Addr) (cl : List (Str × Addr)) (fp : List Addr), STs (X.blk s H scope (compEnvC scope cl c0 X.env) fp) C.nox ifs c)
    (he : ∀ (s : Shared) (H : Hp) (c0 : Addr) (cl : List (Str × Addr)) (fp : List Addr), SE (X.blk s H scope (compEnvC scope cl c0 X.env) fp) C.nox elt e) (hs : ∀ x, foldedSetIterable iter X.env x = pure x := by intro _; rfl) :
    SS X C (.Assign [.Name y py] (.ListComp elt [⟨tg, iter, ifs, 0⟩] scope pos) spos) (sSet i (g (fLcO it (own.map (·.2)) p c e))) :=
  ps_weak (ps_setLc hc hN hy hyl hsw hi ok hg ht he hs) fun Dn σ H h => lift_setLc (g := g) (fun _ _ _ z => lift_lcO hp (hgz _ _ _ z)) h
end
@[simp] theorem v_sForO (it : AsO) (p : Pt) (b : S) (δ : Sl) (s : Sto) : sForO it p b δ s = sBind (it δ s) δ fun q s1 => forO q p b q.1 δ s1 := id rfl
@[simp] theorem v_iSeqO (f : E) (δ : Sl) (s : Sto) : iSeqO f δ s = (f δ s).bind fun d s1 => R.ofO (wkOf s1 d) s1 := id rfl
@[simp] theorem v_fLcO (it : AsO) (vs : List Nat) (p : Pt) (c : T) (e : E) (δ : Sl) (s : Sto) : fLcO it vs p c e δ s = (it δ s).bind fun q s1 => (lcO q p c e (wipeD δ vs) q.1 s1).bind fun xs s2 => if xs.length ≤ sizeLine then .ok xs s2 else .stk := id rfl
@[simp] theorem wk_lst (s : Sto) (xs : List D) : wkOf s (.lst xs) = some (xs, none) := id rfl
@[simp] theorem wk_tup (s : Sto) (xs : List D) : wkOf s (.tup xs) = some (xs, none) := id rfl
@[simp] theorem wk_str (s : Sto) (x : Str) : wkOf s (.str x) = some (signs x, none) := id rfl
theorem wk_ob {s : Sto} {k : Nat} {xs : List D} (h : s[k]? = some (.lst xs)) : wkOf s (.ob k) = some (xs, some k) := by simp only [wkOf, h]
@[simp] theorem wk_mid (s0 g : Sto) (xs : List D) : wkOf (s0 ++ .lst xs :: g) (.ob s0.length) = some (xs, some s0.length) := wk_ob (get_mid _ _ _)
theorem stl_none (xs : List D) (s : Sto) : Stl (xs, none) s := fun k h => nomatch h
theorem stl_some {xs : List D} {k : Nat} {s : Sto} (h : s[k]? = some (.lst xs)) : Stl (xs, some k) s := fun j e => by cases e; exact h
@[simp] theorem forO_none (xs : List D) (p : Pt) (b : S) : ∀ (ds : List D) (δ : Sl) (s : Sto), forO (xs, none) p b ds δ s = forD p b ds δ s
  | [], δ, s => by simp only [forO, forD, if_pos (stl_none xs s)]
  | d :: ds, δ, s => by
    simp only [forO, forD, if_pos (stl_none xs s)]
    cases bindP p d δ with
    | none => rfl
    | some δ1 =>
      simp only
      cases b δ1 s <;> first | rfl | exact forO_none xs p b ds _ _
@[simp] theorem lcO_none (xs : List D) (p : Pt) (c : T) (e : E) (δ : Sl) : ∀ (ds : List D) (s : Sto), lcO (xs, none) p c e δ ds s = lcD p c e δ ds s
  | [], s => by simp only [lcO, lcD, if_pos (stl_none xs s)]
  | d :: ds, s => by
    simp only [lcO, lcD, if_pos (stl_none xs s)]
    cases bindP p d δ with
    | none => rfl
    | some δ1 =>
      simp only
      cases hc : c δ1 s with
      | ok b s1 =>
        cases b with
        | true =>
          simp only
          cases he : e δ1 s1 with
          | ok y s2 =>
            simp only
            rw [lcO_none xs p c e δ ds s2]
            try (cases lcD p c e δ ds s2 <;> rfl)
          | _ => rfl
        | false => exact lcO_none xs p c e δ ds s1
      | _ => rfl
/-- where the walk leaves the store -/
theorem lcO_keep {q : Wk} {p : Pt} {c : T} {e : E} {δ : Sl} {s : Sto} (h : Stl q s) {α : Type} (g f : α → D) : ∀ l : List α, (∀ a ∈ l, ∃ δ1, bindP p (g a) δ = some δ1 ∧ c δ1 s = .ok true s ∧ e δ1 s = .ok (f a) s) → lcO q p c e δ (l.map g) s = .ok (l.map f) s
  | [], _ => by simp only [List.map_nil, lcO, if_pos h]
  | x :: l, hl => by
    obtain ⟨δ1, e1, e2, e3⟩ := hl x (by simp)
    have ih := lcO_keep h g f l fun a ha => hl a (by simp [ha])
    simp only [List.map_cons, lcO, if_pos h, e1, e2, e3, ih]
end Gs

/-! HSa: a set's table laid anew at any mask whose round meets all slots. -/
namespace Su
open PySem PySem.Spec PyProof.Rows L2
/-- from each slot each other one is met by the round of the mask -/
def Rch (m : Nat) : Prop := ∀ i, i ≤ m → ∀ j, j ≤ m → ∃ k, k ≤ m ∧ lcgI m i k = j
theorem rch_by {m : Nat} (h : ((List.range (m + 1)).all fun i => (List.range (m + 1)).all fun j => (List.range (m + 1)).any fun k => lcgI m i k == j) = true) : Rch m := by
  intro i hi j hj
  have a := List.all_eq_true.mp h i (by rw [List.mem_range]; omega)
  have b := List.all_eq_true.mp a j (by rw [List.mem_range]; omega)
  obtain ⟨k, hk, e⟩ := List.any_eq_true.mp b
  rw [List.mem_range] at hk
  exact ⟨k, by omega, eq_of_beq e⟩
theorem rch7 : Rch 7 := rch_by (by decide +kernel)
theorem rch15 : Rch 15 := rch_by (by decide +kernel)
theorem rch31 : Rch 31 := rch_by (by decide +kernel)
theorem free_some (m : Nat) (ow : Array (Option Nat)) : ∀ (n f i b : Nat), n < f → i ≤ m → oAt ow (itL m i b n).1 = none → ∃ j, SetTable.layClean.free m ow f i b = some j ∧ oAt ow j = none ∧ j ≤ m
  | n, 0, i, b, h, _, _ => absurd h (Nat.not_lt_zero _)
  | n, f + 1, i, b, h, hi, hz => by
    have hr := runEnd_bd hi
    rw [free_succ]
    cases q : (List.range (SetTable.runEnd m i + 1 - i)).find? (fun k => (oAt ow (i + k)).isNone) with
    | some k =>
      have h1 := List.find?_some q
      have h2 := List.mem_range.mp (List.mem_of_find?_eq_some q)
      refine ⟨i + k, rfl, ?_, by omega⟩
      cases z : oAt ow (i + k) with
      | none => rfl
      | some _ => simp only [z] at h1; exact nomatch h1
    | none =>
      cases n with
      | zero =>
        exfalso
        have h1 := List.find?_eq_none.mp q 0 (List.mem_range.mpr (by omega))
        apply h1
        show (oAt ow (i + 0)).isNone = true
        rw [Nat.add_zero, show oAt ow i = none from hz]
        rfl
      | succ n =>
        show ∃ j, SetTable.layClean.free m ow f (SetTable.leap m i b).1 (SetTable.leap m i b).2 = some j ∧ _
        exact free_some m ow n f _ _ (by omega) (Nat.le_of_lt_succ (Nat.mod_lt _ (Nat.succ_pos _))) hz
theorem free_any {m : Nat} (hm : Rch m) (ow : Array (Option Nat)) (h : Int) {j : Nat} (hj : j ≤ m) (hf : oAt ow j = none) :
    ∃ j', SetTable.layClean.free m ow (SetTable.turns m) (SetTable.bits h % (m + 1)) (SetTable.bits h) = some j' ∧ oAt ow j' = none ∧ j' ≤ m := by
  obtain ⟨k, hk, e⟩ := hm _ (runI_le m (SetTable.bits h) 12) j hj
  refine free_some m ow (12 + k) _ _ _ (by unfold SetTable.turns; omega) (Nat.le_of_lt_succ (Nat.mod_lt _ (Nat.succ_pos _))) ?_
  rw [itL_run]
  show oAt ow (runI m (SetTable.bits h) (12 + k)) = none
  rw [runI_tail (bits_lt h), e]
  exact hf
theorem fm_congr' {α β : Type} {f g : α → Option β} : ∀ l : List α, (∀ x ∈ l, f x = g x) → l.filterMap f = l.filterMap g
  | [], _ => rfl
  | x :: l, h => by
    rw [List.filterMap_cons, List.filterMap_cons, h x List.mem_cons_self, fm_congr' l fun y hy => h y (List.mem_cons_of_mem _ hy)]
/-- the slots that are taken, with who sits there -/
def ofSlots (f : Nat → Option Nat) (l : List Nat) : List (Nat × Nat) := l.filterMap fun j => (f j).map (j, ·)
theorem slots_put {f g : Nat → Option Nat} {j n : Nat} (hj : f j = none) (gj : g j = some n) : ∀ l : List Nat, l.Nodup → j ∈ l → (∀ i ∈ l, i ≠ j → g i = f i) → (ofSlots g l).Perm ((j, n) :: ofSlots f l)
  | [], _, h, _ => absurd h List.not_mem_nil
  | x :: l, hn, h, he => by
    obtain ⟨h1, h2⟩ := List.nodup_cons.mp hn
    by_cases c : x = j
    · subst c
      have e : ofSlots g l = ofSlots f l := by
        unfold ofSlots
        refine fm_congr' _ fun i hi => ?_
        rw [he i (List.mem_cons_of_mem _ hi) (fun z => h1 (z ▸ hi))]
      have e1 : ofSlots g (x :: l) = (x, n) :: ofSlots g l := by simp [ofSlots, gj]
      have e2 : ofSlots f (x :: l) = ofSlots f l := by simp [ofSlots, hj]
      rw [e1, e2, e]
    · have hm : j ∈ l := by
        rcases List.mem_cons.mp h with z | z
        · exact absurd z.symm c
        · exact z
      have ih := slots_put hj gj l h2 hm fun i hi => he i (List.mem_cons_of_mem _ hi)
      have hx := he x List.mem_cons_self c
      cases q : f x with
      | none =>
        have e1 : ofSlots g (x :: l) = ofSlots g l := by simp [ofSlots, hx, q]
        have e2 : ofSlots f (x :: l) = ofSlots f l := by simp [ofSlots, q]
        rw [e1, e2]
        exact ih
      | some k =>
        have e1 : ofSlots g (x :: l) = (x, k) :: ofSlots g l := by simp [ofSlots, hx, q]
        have e2 : ofSlots f (x :: l) = (x, k) :: ofSlots f l := by simp [ofSlots, q]
        rw [e1, e2]
        exact (ih.cons _).trans (List.Perm.swap _ _ _)
theorem slots_full {f : Nat → Option Nat} : ∀ l : List Nat, (∀ j ∈ l, f j ≠ none) → (ofSlots f l).length = l.length
  | [], _ => rfl
  | x :: l, h => by
    have ih := slots_full l fun j hj => h j (List.mem_cons_of_mem _ hj)
    cases q : f x with
    | none => exact absurd q (h x List.mem_cons_self)
    | some k =>
      have e1 : ofSlots f (x :: l) = (x, k) :: ofSlots f l := by simp [ofSlots, q]
      rw [e1, List.length_cons, List.length_cons, ih]
structure Sat (m n : Nat) (ow : Array (Option Nat)) : Prop where
  size : ow.size = m + 1
  perm : ((ofSlots (oAt ow) (List.range (m + 1))).map (·.2)).Perm (List.range n)
theorem Sat.zero (m : Nat) : Sat m 0 (Array.replicate (m + 1) none) := by
  refine ⟨by simp, ?_⟩
  have e : ofSlots (oAt (Array.replicate (m + 1) none)) (List.range (m + 1)) = [] := by
    unfold ofSlots
    rw [List.filterMap_eq_nil_iff]
    intro j hj
    rw [oAt_init (Nat.le_of_lt_succ (List.mem_range.mp hj))]
    rfl
  rw [e]
  exact List.Perm.refl _
theorem Sat.more {m n : Nat} (hm : Rch m) {ow : Array (Option Nat)} (W : Sat m n ow) (hn : n ≤ m) (h : Int) :
    ∃ j, SetTable.layClean.free m ow (SetTable.turns m) (SetTable.bits h % (m + 1)) (SetTable.bits h) = some j ∧ Sat m (n + 1) (ow.setIfInBounds j (some n)) := by
  have ex : ∃ j, j ≤ m ∧ oAt ow j = none := by
    refine Classical.byContradiction fun c => ?_
    have hl := slots_full (f := oAt ow) (List.range (m + 1)) fun j hj z => c ⟨j, Nat.le_of_lt_succ (List.mem_range.mp hj), z⟩
    have hp := W.perm.length_eq
    rw [List.length_map, List.length_range] at hp
    rw [List.length_range] at hl
    omega
  obtain ⟨j0, h0, hz⟩ := ex
  obtain ⟨j, e, hj, hjm⟩ := free_any hm ow h h0 hz
  refine ⟨j, e, by rw [Array.size_setIfInBounds]; exact W.size, ?_⟩
  have hs : j < ow.size := by rw [W.size]; omega
  have p := slots_put (f := oAt ow) (g := oAt (ow.setIfInBounds j (some n))) hj (oAt_set_self (some n) hs) (List.range (m + 1)) List.nodup_range (List.mem_range.mpr (by omega)) fun i _ hi => oAt_set_ne _ hi
  refine (p.map (·.2)).trans ?_
  rw [List.map_cons, List.range_succ (n := n)]
  exact (W.perm.cons n).trans (List.perm_append_singleton n _).symm
theorem clean_fold {m : Nat} (hm : Rch m) : ∀ (hs : List Int) (n : Nat) (ow : Array (Option Nat)), Sat m n ow → n + hs.length ≤ m + 1 → ∃ ow', hs.foldl (stepF m) (some (ow, n)) = some (ow', n + hs.length) ∧ Sat m (n + hs.length) ow'
  | [], n, ow, W, _ => ⟨ow, rfl, W⟩
  | h :: hs, n, ow, W, hl => by
    rw [List.length_cons] at hl
    obtain ⟨j, e, W'⟩ := W.more hm (by omega) h
    obtain ⟨ow', e', W2⟩ := clean_fold hm hs (n + 1) _ W' (by omega)
    have ea : n + 1 + hs.length = n + (h :: hs).length := by rw [List.length_cons]; omega
    rw [ea] at e' W2
    refine ⟨ow', ?_, W2⟩
    rw [List.foldl_cons, stepF_some e]
    exact e'
theorem clean_any {m : Nat} (hm : Rch m) {hs : Array Int} (hn : hs.size ≤ m + 1) : ∃ ow, SetTable.layClean m hs = some ow ∧ Sat m hs.size ow := by
  obtain ⟨ow, e, W⟩ := clean_fold hm hs.toList 0 _ (Sat.zero m) (by rw [Array.length_toList]; omega)
  rw [Nat.zero_add, Array.length_toList] at e W
  refine ⟨ow, ?_, W⟩
  rw [layClean_eq, e]
  rfl
theorem laid_any {m : Nat} (hm : Rch m) (fi mv : Nat) (ld pl : Bool) {hs : Array Int} (hn : hs.size ≤ m) :
    ∃ t' order, SetTable.laid m fi mv ld pl hs = some (t', order) ∧ order.toList.Perm (List.range hs.size) ∧ Ris t'.place.toList ∧ t'.led = ld ∧ t'.plain = pl ∧ t'.fits hs.size = true ∧ t'.mask = m ∧ t'.dummies = #[] := by
  obtain ⟨ow, e, W⟩ := clean_any hm (hs := hs) (by omega)
  have eo : ofSlots (fun j => ow.getD j none) (List.range (m + 1)) = ofSlots (oAt ow) (List.range (m + 1)) := by
    unfold ofSlots
    refine fm_congr' _ fun j hj => ?_
    show Option.map _ (ow.getD j none) = _
    rw [oAt_none (by rw [W.size]; exact List.mem_range.mp hj)]
  have el : SetTable.laid m fi mv ld pl hs = some (({ mask := m, place := ((ofSlots (fun j => ow.getD j none) (List.range (m + 1))).map (·.1)).toArray, dummies := #[], finger := fi, led := ld, moves := mv, plain := pl } : SetTable), ((ofSlots (fun j => ow.getD j none) (List.range (m + 1))).map (·.2)).toArray) := by
    unfold SetTable.laid
    rw [e]
    rfl
  have hl : (ofSlots (fun j => ow.getD j none) (List.range (m + 1))).length = hs.size := by
    have := W.perm.length_eq
    rw [← eo, List.length_map, List.length_range] at this
    exact this
  refine ⟨_, _, el, ?_, ?_, rfl, rfl, ?_, rfl, rfl⟩
  · rw [eo]
    exact W.perm
  · exact (ris_live (fun j => ow.getD j none) (List.range (m + 1)) (by
      unfold Ris
      first | exact List.pairwise_lt_range | exact List.pairwise_lt_range _)).1
  · unfold SetTable.fits SetTable.fill
    rw [Bool.and_eq_true, beq_iff_eq, decide_eq_true_eq]
    show ((ofSlots (fun j => ow.getD j none) (List.range (m + 1))).map (·.1)).toArray.size = hs.size ∧ ((ofSlots (fun j => ow.getD j none) (List.range (m + 1))).map (·.1)).toArray.size + 0 ≤ m
    rw [List.size_toArray, List.length_map]
    omega
/-- the masks that come here -/
theorem size_rch {wanted : Nat} (h : wanted < 32) : Rch (SetTable.sizeAbove wanted - 1) ∧ wanted ≤ SetTable.sizeAbove wanted - 1 ∧ SetTable.sizeAbove wanted ≤ 32 := by
  have key : ∀ w : Nat, w < 32 → (SetTable.sizeAbove w - 1 = 7 ∨ SetTable.sizeAbove w - 1 = 15 ∨ SetTable.sizeAbove w - 1 = 31) ∧ w ≤ SetTable.sizeAbove w - 1 ∧ SetTable.sizeAbove w ≤ 32 := by decide +kernel
  obtain ⟨a, b, c⟩ := key wanted h
  refine ⟨?_, b, c⟩
  rcases a with a | a | a <;> rw [a]
  · exact rch7
  · exact rch15
  · exact rch31
end Su

/-! HSb: a set of ints merged into another one. -/
namespace Su
open PySem PySem.Spec PyProof.Rows L2
section
variable {P : Program} {w : World} {A : Around} {E : Value → Shared → Prop} {s : Shared} {a b : Addr} {S T : Int → Bool} {n m : Nat}
theorem perm_pick {es : Array (Int × Value)} {order : Array Nat} (hp : order.toList.Perm (List.range es.size)) : (order.filterMap (es[·]?)).toList.Perm es.toList := by
  have e1 : (order.filterMap (es[·]?)).toList = order.toList.filterMap (es[·]?) := by simp
  rw [e1]
  have e2 : (List.range es.size).filterMap (es[·]?) = es.toList := by
    have key : ∀ l : List (Int × Value), (List.range l.length).filterMap (fun i => l[i]?) = l := by
      intro l
      induction l with
      | nil => rfl
      | cons x l ih =>
        rw [List.length_cons, List.range_succ_eq_map, List.filterMap_cons]
        simp only [List.getElem?_cons_zero, List.filterMap_map]
        congr 1
    have := key es.toList
    rw [Array.length_toList] at this
    rw [← this]
    exact fm_congr' _ fun i _ => by rw [Array.getElem?_toList]
  rw [← e2]
  exact hp.filterMap _
theorem hashes_size (es : Array (Int × Value)) : (es.map (·.1)).size = es.size := Array.size_map
theorem relayR {wanted : Nat} {Q : Unit → Shared → Prop} (R : SetR w s.heap a S n) (hw : wanted < 32) (hn : n ≤ wanted)
    (hQ : ∀ h', Heap.SameBut a s.heap h' → SetR w h' a S n → Q () { s with heap := h' }) : wpAny (model P w) A (setRelay a wanted) Q E s := by
  obtain ⟨o, es, ep, t, ho, hex, hd, g, nd, hm, hb, hf, rfl, hr, hl⟩ := R
  obtain ⟨k1, k2, k3⟩ := size_rch hw
  obtain ⟨t', order, e, p, r', ld, pl, f', _, _⟩ := laid_any k1 t.finger (t.movedTo (SetTable.sizeAbove wanted - 1)) t.led t.plain (hs := es.map (·.1)) (by rw [hashes_size]; omega)
  rw [hashes_size] at p f'
  have e' : t.relaid (es.map (·.1)) wanted = some (t', order) := e
  have pp := perm_pick p
  have hs2 : (order.filterMap (es[·]?)).size = es.size := by
    have := pp.length_eq
    rw [Array.length_toList, Array.length_toList] at this
    exact this
  rw [setRelay_eq]
  refine wpAny_bind (wpAny_setState_of ho hd hf ?_)
  dsimp only
  refine wp_if_neg (by rw [sizeLine_eq]; omega) ?_
  try refine wpAny_bind (wpAny_pure ?_)
  rw [e']
  dsimp only
  refine wpAny_bind ?_
  refine wp_if_neg (by rw [hs2]; simp) ?_
  try refine wpAny_bind (wpAny_pure ?_)
  refine wpAny_pure ?_
  dsimp only
  refine wpAny_storeSet_of ho hd ?_ (by rw [hs2]; exact fits_of_scanBound hb)
  refine hQ _ (Heap.SameBut.update ..) ⟨_, order.filterMap (es[·]?), ep + 1, t', store_at ho hd, ⟨hex.1, hex.2.1, hex.2.2⟩, rfl, fun e he => g e (pp.mem_iff.mp he), (pp.map keyOf).nodup_iff.mpr nd, fun k => (hm k).trans (pp.map keyOf).mem_iff.symm, by rw [hs2]; exact hb, by rw [hs2]; exact f', hs2, r', hl.imp id fun z => by rw [ld]; exact z⟩
theorem roomR {more : Nat} {Q : Unit → Shared → Prop} (R : SetR w s.heap a S n) (hn : n + more ≤ 15)
    (hQ : ∀ h', Heap.SameBut a s.heap h' → SetR w h' a S n → Q () { s with heap := h' }) : wpAny (model P w) A (setRoomFor a more) Q E s := by
  have R0 := R
  obtain ⟨o, es, ep, t, ho, hex, hd, g, nd, hm, hb, hf, rfl, hr, hl⟩ := R
  have hp : t.place.size = es.size := by
    unfold SetTable.fits at hf
    rw [Bool.and_eq_true, beq_iff_eq] at hf
    exact hf.1
  unfold setRoomFor
  refine wpAny_bind (wpAny_setState_of ho hd hf ?_)
  dsimp only
  unfold SetTable.roomFor
  rw [hp]
  split
  · rename_i x h
    split at h
    · cases h
      exact relayR R0 (by omega) (by omega) hQ
    · exact nomatch h
  · exact wpAny_pure (hQ _ (Heap.SameBut.refl a s.heap) R0)
theorem quiet_ints {Q : Bool → Shared → Prop} (xs : List Addr) (hx : ∀ a ∈ xs, ∃ S n, SetR w s.heap a S n) (hq : Q true s) : wpAny (model P w) A (setsQuiet xs) Q E s := by
  unfold setsQuiet
  refine wpAny_bind (wpAny_forIn_list _ (fun rest r s' => s' = s ∧ r = (none, ()) ∧ ∀ a ∈ rest, ∃ S n, SetR w s.heap a S n) _ (fun x rest r s' hr => ?_) (fun r s' hr => ?_) _ _ ⟨rfl, rfl, hx⟩)
  · obtain ⟨rfl, rfl, hr⟩ := hr
    obtain ⟨S, n, o, es, ep, t, ho, hex, hd, g, nd, hm, hb, hf, _⟩ := hr x List.mem_cons_self
    refine wpAny_bind (wpAny_setEntries_of ho hd hf ?_)
    refine wpAny_bind (PySem.MeetsSeq2.wpAny_forIn_array _ (fun rest r s2 => s2 = s' ∧ r = (none, ()) ∧ ∀ e ∈ rest, GoodE e) _ (fun e rest r s2 he => ?_) (fun r s2 he => ?_) _ _ ⟨rfl, rfl, g⟩)
    · obtain ⟨rfl, rfl, he⟩ := he
      obtain ⟨h0, v⟩ := e
      obtain ⟨k, tk, e1, e2⟩ := he (h0, v) List.mem_cons_self
      cases e1
      exact wpAny_pure ⟨rfl, rfl, fun e q => he e (List.mem_cons_of_mem _ q)⟩
    · obtain ⟨rfl, rfl, _⟩ := he
      exact wpAny_pure ⟨rfl, rfl, fun a q => hr a (List.mem_cons_of_mem _ q)⟩
  · obtain ⟨rfl, rfl, _⟩ := hr
    exact wpAny_pure hq
theorem walk_look {Q : Array (Int × Value) → Shared → Prop} (R : SetR w s.heap a S n) (hne : a ≠ b) {o : Obj} {es : Array (Int × Value)} {ep : Nat} {t : SetTable} (ho : s.heap.get? b = some o) (hd : o.data = .set es ep t) (R2 : SetR w s.heap b T m) (hf : t.fits es.size = true) (hl : w.params.followText "set-order" = true ∨ t.led = true)
    (hQ : ∀ h' L, L.toList.Perm es.toList → Heap.SameBut a s.heap h' → SetR w h' a S n → Q L { s with heap := h' }) : wpAny (model P w) A (setWalkUnseen b [a] (some a)) Q E s := by
  unfold setWalkUnseen
  refine wpAny_bind (wpAny_setState_of ho hd hf ?_)
  dsimp only
  refine wpAny_bind (wpAny_byText ?_)
  split
  · rename_i c
    unfold setWalk
    refine wpAny_bind (wpAny_setState_of ho hd hf ?_)
    dsimp only
    refine wpAny_bind (wpAny_byText ?_)
    cases tx : w.params.followText "set-order" with
    | true =>
      simp only [if_true]
      refine wpAny_bind (wpAny_askSetting ?_)
      exact wpAny_pure (hQ _ _ (pick_perm _ es) (Heap.SameBut.refl a s.heap) R)
    | false =>
      rw [tx] at c hl
      have hled : t.led = true := hl.resolve_left (fun z => nomatch z)
      have hdr : (!t.plain && decide (es.size > 1)) = false := by
        rw [hled] at c
        cases hp : t.plain with
        | true => rfl
        | false => 
          rw [hp] at c
          simpa using c
      simp only [Bool.false_eq_true, if_false]
      change wpAny _ _ (if (!t.plain && decide (es.size > 1)) = true then _ else _) _ _ _
      rw [hdr]
      simp only [Bool.false_eq_true, if_false]
      refine wpAny_bind ?_
      change wpAny _ _ (if (!t.led && decide (es.size > 1)) = true then _ else _) _ _ _
      rw [hled]
      simp only [Bool.not_true, Bool.false_and, Bool.false_eq_true, if_false]
      exact wpAny_pure (wpAny_pure (hQ _ _ (List.Perm.refl _) (Heap.SameBut.refl a s.heap) R))
  · rename_i c
    have hled : t.led = true := hl.resolve_left fun z => c (by rw [z]; rfl)
    refine wpAny_bind (quiet_ints _ (fun x hx => ?_) ?_)
    · rcases List.mem_cons.mp hx with rfl | hx
      · exact ⟨_, _, R2⟩
      · rcases List.mem_cons.mp hx with rfl | hx
        · exact ⟨_, _, R⟩
        · exact nomatch hx
    simp only [Bool.not_true, Bool.false_eq_true, if_false]
    refine wpAny_bind (wpAny_rule ?_)
    have R0 := R
    obtain ⟨oa, ea, pa, ta, hoa, hexa, hda, ga, nda, hma, hba, hfa, hna, hra, hla⟩ := R
    refine wpAny_bind (wpAny_setState_of hoa hda hfa ?_)
    dsimp only
    split
    · refine wpAny_bind (wpAny_storeSet_of hoa hda ?_ (fits_of_scanBound hba))
      refine wpAny_pure (hQ _ _ (List.Perm.refl _) (Heap.SameBut.update ..) ⟨_, ea, pa + 1, _, store_at hoa hda, ⟨hexa.1, hexa.2.1, hexa.2.2⟩, rfl, ga, nda, hma, hba, hfa, hna, hra, ?_⟩)
      refine hla.imp id fun z => ?_
      show (ta.led && t.led) = true
      rw [z, hled]
      rfl
    · exact wpAny_pure (hQ _ _ (List.Perm.refl _) (Heap.SameBut.refl a s.heap) R0)
/-- one by one -/
theorem many_loop {each : Sem Unit} {Q : Unit → Shared → Prop} (L : Array (Int × Value)) (R : SetR w s.heap a S n) (hne : a ≠ b) {o : Obj} {es : Array (Int × Value)} {ep : Nat} {t : SetTable} (ho : s.heap.get? b = some o) (hd : o.data = .set es ep t) (hf : t.fits es.size = true)
    (g : ∀ e ∈ L.toList, GoodE e) (hk : n + L.size ≤ 15)
    (he : ∀ (h' : Heap) (Q' : Unit → Shared → Prop), h'.get? b = some o → Q' () { s with heap := h' } → wpAny (model P w) A each Q' E { s with heap := h' })
    (hQ : ∀ h' S' n', Heap.SameBut a s.heap h' → SetR w h' a S' n' → (∀ k, S' k = true ↔ S k = true ∨ k ∈ L.toList.map keyOf) → n' ≤ 15 → Q () { s with heap := h' }) :
    wpAny (model P w) A (do
      let _ ← forIn L PUnit.unit fun x __s => do
              let _ ← holding [x.snd] (setAddHashed a x.snd x.fst)
              each
              let z ← setState b
              if (z.snd.fst != ep) = true then do
                  unsupported "set.changed-during-merge"
                  pure (ForInStep.yield PUnit.unit)
                else pure (ForInStep.yield PUnit.unit)
      pure ()) Q E s := by
  refine wpAny_bind (PySem.MeetsSeq2.wpAny_forIn_array _ (fun rest r s' => ∃ h' S' n', s' = { s with heap := h' } ∧ Heap.SameBut a s.heap h' ∧ SetR w h' a S' n' ∧ (∀ k, (S' k = true ∨ k ∈ rest.map keyOf) ↔ (S k = true ∨ k ∈ L.toList.map keyOf)) ∧ n' + rest.length ≤ 15 ∧ ∀ e ∈ rest, GoodE e) _ (fun e rest r s' hr => ?_) (fun r s' hr => ?_) _ _
    ⟨s.heap, S, n, rfl, Heap.SameBut.refl a s.heap, R, fun k => Iff.rfl, by rw [Array.length_toList]; exact hk, g⟩)
  · obtain ⟨h', S', n', rfl, sb, R', hk', hn', hg⟩ := hr
    obtain ⟨h0, v⟩ := e
    obtain ⟨k, tk, e1, e2⟩ := hg (h0, v) List.mem_cons_self
    cases e1
    cases e2
    rw [List.length_cons] at hn'
    refine wpAny_bind (wpAny_holding ?_)
    refine setR_add_hashed (P := P) (s := { s with heap := h' }) (k := k) (tk := tk) R' (by unfold scanBound; omega) fun h2 sb2 R2 => ?_
    have hb2 : h2.get? b = some o := (sb2.2 b (Ne.symm hne)).trans ((sb.2 b (Ne.symm hne)).trans ho)
    refine wpAny_bind (he h2 _ hb2 ?_)
    refine wpAny_bind (wpAny_setState_of (s := { s with heap := h2 }) hb2 hd hf ?_)
    dsimp only
    refine wp_if_neg (by simp) ?_
    refine wpAny_pure ⟨h2, _, _, rfl, sb.trans sb2, R2, fun j => ?_, ?_, fun e q => hg e (List.mem_cons_of_mem _ q)⟩
    · rw [← hk' j, List.map_cons, List.mem_cons, Bool.or_eq_true, decide_eq_true_eq, or_assoc]
      exact Iff.rfl
    · split <;> omega
  · obtain ⟨h', S', n', rfl, sb, R', hk', hn', hg⟩ := hr
    refine wpAny_pure (hQ h' S' n' sb R' (fun k => ?_) (by simpa using hn'))
    rw [← hk' k]
    simp
/-- into a set that has some -/
theorem merge_some {each : Sem Unit} {Q : Unit → Shared → Prop} (R : SetR w s.heap a S n) (R2 : SetR w s.heap b T m) (hne : a ≠ b) (hn : 0 < n) (hk : n + m ≤ 15)
    (he : ∀ (h' : Heap) (Q' : Unit → Shared → Prop), (∀ o, s.heap.get? b = some o → h'.get? b = some o) → Q' () { s with heap := h' } → wpAny (model P w) A each Q' E { s with heap := h' })
    (hQ : ∀ h' S' n', Heap.SameBut a s.heap h' → SetR w h' a S' n' → (∀ k, S' k = true ↔ S k = true ∨ T k = true) → n' ≤ 15 → Q () { s with heap := h' }) : wpAny (model P w) A (setMerge a b each) Q E s := by
  have R20 := R2
  obtain ⟨o2, es2, ep2, t2, ho2, hex2, hd2, g2, nd2, hm2, hb2, hf2, rfl, hr2, hl2⟩ := R2
  unfold setMerge
  rw [show (a == b) = false from beq_eq_false_iff_ne.mpr hne]
  simp only [Bool.false_eq_true, if_false]
  refine wpAny_bind (wpAny_setState_of ho2 hd2 hf2 ?_)
  dsimp only
  split
  · rename_i c
    refine wpAny_pure ?_
    refine hQ s.heap S n (Heap.SameBut.refl a s.heap) R (fun k => ?_) (by omega)
    have : ¬ T k = true := fun z => by
      have := (hm2 k).mp z
      rw [Array.isEmpty_iff] at c
      subst c
      simp at this
    simp [this]
  refine wpAny_bind (roomR R hk fun h1 sb1 R1 => ?_)
  have hb1 : h1.get? b = some o2 := (sb1.2 b (Ne.symm hne)).trans ho2
  have R10 := R1
  obtain ⟨o, es, ep, t, ho, hex, hd, g, nd, hm, hb, hf, hns, hr, hl⟩ := R1
  refine wpAny_bind (wpAny_setState_of (s := { s with heap := h1 }) ho hd hf ?_)
  dsimp only
  have hroad : t.road t2 = .oneByOne := by
    unfold SetTable.road SetTable.fill
    unfold SetTable.fits at hf
    rw [Bool.and_eq_true, beq_iff_eq] at hf
    rw [if_pos]
    rw [bne_iff_ne, hf.1]
    omega
  rw [hroad]
  dsimp only
  refine wpAny_bind (walk_look (s := { s with heap := h1 }) R10 hne hb1 hd2 (R20.at fun o q => (sb1.2 b (Ne.symm hne)).trans q) hf2 hl2 fun h2 L hp sb2 R2 => ?_)
  have hb2' : h2.get? b = some o2 := (sb2.2 b (Ne.symm hne)).trans hb1
  have hLs : L.size = es2.size := by
    have := hp.length_eq
    rw [Array.length_toList, Array.length_toList] at this
    exact this
  refine many_loop (s := { s with heap := h2 }) L R2 hne hb2' hd2 hf2 (fun e q => g2 e (hp.mem_iff.mp q)) (by rw [hLs]; exact hk) (fun h' Q' hb' hq => he h' Q' (fun o' z => by rw [ho2] at z; cases z; exact hb') hq) fun h3 S' n' sb3 R3 hk3 hn3 => ?_
  refine hQ h3 S' n' ((sb1.trans sb2).trans sb3) R3 (fun k => ?_) hn3
  rw [hk3 k, hm2 k, (hp.map keyOf).mem_iff]
end
end Su

/-! HSc: two sets of ints joined. -/
namespace Su
open PySem PySem.Spec PyProof.Rows L2
section
variable {P : Program} {w : World} {A : Around} {E : Value → Shared → Prop} {s : Shared} {a b : Addr} {S T : Int → Bool} {n m : Nat}
theorem entry_or : entryFor table "set.__or__" = some Builtin.«frozenset.__or__» := entryFor_alias (id' := "frozenset.__or__") (by kernel_rfl) rfl (by decide +kernel) (by kernel_rfl)
def uni (id : String) (l : Addr) (r : Value) : Sem Value := do
  let res ← Builtin.Frozenset.copyOf l
  if r != .ref l then
    let q ← Builtin.Frozenset.addrOf res
    holding [res] (Builtin.Frozenset.updateFrom id q r)
  return res
def orB (args : Args) : Sem Fin := do
  let z ← Builtin.Frozenset.slot1 "__or__" args
  if !(← Builtin.Frozenset.isAnySet z.1 <&&> Builtin.Frozenset.isAnySet z.2) then
    rule "frozenset.__or__.declined"
    return ← ret .notImplemented
  ret (← uni "frozenset.__or__" (← Builtin.Frozenset.addrOf z.1) z.2)
theorem or_eq : Builtin.«frozenset.__or__» = orB := rfl
theorem any_set {Q : Bool → Shared → Prop} (hT : s.TypeIs (.ref a) "set") (h : Q true s) : wpAny (model P w) A (Builtin.Frozenset.isAnySet (.ref a)) Q E s := by
  unfold Builtin.Frozenset.isAnySet
  refine wpAny_bind (m := isInstance (.ref a) (.type "set")) (wpAny_isInstance (b := true) hT sub_set_self ?_)
  exact wpAny_pure h
theorem newSet_at {Q : Value → Shared → Prop} (h : Q (.ref s.heap.objs.size) { s with heap := s.heap.push { cls := .type "set", dict := none, data := .set #[] 0 (.fresh 0 0 (!w.params.followText "set-order")) } }) : wpAny (model P w) A (newSet (.type "set")) Q E s := by
  unfold newSet
  refine wpAny_bind (wpAny_byText ?_)
  dsimp only
  simp only [newObj]
  refine wpAny_bind (wpAny_alloc (wpAny_pure ?_))
  exact h
theorem same_push {h h' : Heap} {o : Obj} (sb : Heap.SameBut h.objs.size (h.push o) h') : ∀ c u, h.get? c = some u → h'.get? c = some u := fun c u e => by
  have hlt := Heap.lt_size e
  rw [sb.2 c (Nat.ne_of_lt hlt)]
  exact Heap.get?_push_of_some _ e
theorem relayE {wanted : Nat} {Q : Unit → Shared → Prop} {o : Obj} {ep : Nat} {t : SetTable} (ho : s.heap.get? a = some o) (hd : o.data = .set #[] ep t) (hf : t.fits 0 = true) (hw : wanted < 32)
    (hQ : ∀ h' o' ep' t', Heap.SameBut a s.heap h' → h'.get? a = some o' → (o.ExactSet → o'.ExactSet) → o'.data = .set #[] ep' t' → t'.place = #[] → t'.dummies = #[] → Rch t'.mask → wanted ≤ t'.mask → t'.led = t.led → Q () { s with heap := h' }) : wpAny (model P w) A (setRelay a wanted) Q E s := by
  obtain ⟨k1, k2, k3⟩ := size_rch hw
  obtain ⟨t', order, e, p, r', ld, pl, f', mk, dm⟩ := laid_any k1 t.finger (t.movedTo (SetTable.sizeAbove wanted - 1)) t.led t.plain (hs := ((#[] : Array (Int × Value)).map (·.1))) (by simp)
  have e' : t.relaid ((#[] : Array (Int × Value)).map (·.1)) wanted = some (t', order) := e
  have p0 : order = #[] := by
    have : order.toList = [] := List.Perm.eq_nil (p.trans (by simp))
    exact Array.toList_eq_nil_iff.mp this
  subst p0
  have pl0 : t'.place = #[] := by
    unfold SetTable.fits at f'
    rw [Bool.and_eq_true, beq_iff_eq] at f'
    exact Array.eq_empty_of_size_eq_zero (by rw [f'.1]; simp)
  rw [setRelay_eq]
  refine wpAny_bind (wpAny_setState_of ho hd hf ?_)
  dsimp only
  refine wp_if_neg (by rw [sizeLine_eq]; omega) ?_
  try refine wpAny_bind (wpAny_pure ?_)
  rw [e']
  dsimp only
  refine wpAny_bind ?_
  refine wp_if_neg (by simp) ?_
  try refine wpAny_bind (wpAny_pure ?_)
  refine wpAny_pure ?_
  dsimp only
  have e0 : (#[] : Array Nat).filterMap ((#[] : Array (Int × Value))[·]?) = #[] := by simp
  rw [e0]
  refine wpAny_storeSet_of ho hd ?_ (by simp)
  exact hQ _ _ (ep + 1) t' (Heap.SameBut.update ..) (store_at ho hd) (fun hex => ⟨hex.1, hex.2.1, hex.2.2⟩) rfl pl0 dm (by rw [mk]; exact k1) (by rw [mk]; exact k2) ld
/-- into a new set -/
theorem merge_new {Q : Unit → Shared → Prop} {ld : Bool} (hl : w.params.followText "set-order" = true ∨ ld = true) {o : Obj} (hex : o.ExactSet) (hd : o.data = .set #[] 0 (.fresh 0 0 ld)) (hp : s.heap.get? a = some o) (R2 : SetR w s.heap b T m) (hne : a ≠ b) (hk : m ≤ 15)
    (hQ : ∀ h', Heap.SameBut a s.heap h' → SetR w h' a T m → Q () { s with heap := h' }) : wpAny (model P w) A (setMerge a b) Q E s := by
  have R20 := R2
  obtain ⟨o2, es2, ep2, t2, ho2, hex2, hd2, g2, nd2, hm2, hb2, hf2, rfl, hr2, hl2⟩ := R2
  unfold setMerge
  rw [show (a == b) = false from beq_eq_false_iff_ne.mpr hne]
  simp only [Bool.false_eq_true, if_false]
  refine wpAny_bind (wpAny_setState_of ho2 hd2 hf2 ?_)
  dsimp only
  have R0 : SetR w s.heap a (fun _ => false) 0 := ⟨o, #[], 0, _, hp, hex, hd, (fun e he => by simp at he), (by simp), (fun k => by simp), (by decide), (by rfl), rfl, List.Pairwise.nil, hl⟩
  split
  · rename_i c
    rw [Array.isEmpty_iff] at c
    subst c
    refine wpAny_pure (hQ s.heap (Heap.SameBut.refl a s.heap) (R0.congr fun k => ?_))
    cases z : T k with
    | false => rfl
    | true => have := (hm2 k).mp z; simp at this
  have fin : ∀ (s1 : Shared) (t : SetTable) (o1 : Obj) (ep1 : Nat), (∃ h1, s1 = { s with heap := h1 } ∧ Heap.SameBut a s.heap h1 ∧ h1.get? a = some o1) → o1.ExactSet → o1.data = .set #[] ep1 t → t.place = #[] → t.dummies = #[] → Rch t.mask → es2.size ≤ t.mask → t.led = ld →
      wpAny (model P w) A (match t.road t2 with
        | SetTable.Road.slotForSlot => storeSet a es2 { mask := t2.mask, place := t2.place, dummies := t2.dummies, finger := t.finger, led := t.led && t2.led, moves := t.moves, plain := t.plain && t2.plain }
        | SetTable.Road.clean => do
          let x ← (do
            let some (t, order) := SetTable.laid t.mask t.finger t.moves (t.led && t2.led) (t.plain && t2.plain) (Array.map (fun x => x.fst) es2) | unsupported "internal:set-table-without-room"
            let es' := order.filterMap (es2[·]?)
            if es'.size != es2.size then unsupported "internal:set-table-lost-an-element"
            pure (es', t) : Sem (Array (Int × Value) × SetTable))
          storeSet a x.fst x.snd
        | SetTable.Road.oneByOne => do
          let z ← setWalkUnseen b [a] (some a)
          forIn z PUnit.unit fun x __s => do
              let _ ← holding [x.snd] (setAddHashed a x.snd x.fst)
              pure ()
              let z ← setState b
              if (z.snd.fst != ep2) = true then do
                  unsupported "set.changed-during-merge"
                  pure (ForInStep.yield PUnit.unit)
                else pure (ForInStep.yield PUnit.unit)
          pure ()) Q E s1 := by
    rintro _ t o1 ep1 ⟨h1, rfl, sb1, ho1⟩ hex1 hd1 pe de hm hsz hld
    have hf1 : t.fill = 0 := by unfold SetTable.fill; rw [pe, de]; rfl
    have led' : w.params.followText "set-order" = true ∨ (t.led && t2.led) = true := by
      rcases hl with z | z
      · exact .inl z
      · rcases hl2 with y | y
        · exact .inl y
        · exact .inr (by rw [hld, z, y]; rfl)
    unfold SetTable.road
    rw [hf1]
    simp only [bne_self_eq_false, Bool.false_eq_true, if_false]
    by_cases c : (t.mask == t2.mask && t2.dummies.isEmpty) = true
    · rw [if_pos c]
      dsimp only
      refine wpAny_storeSet_of (s := { s with heap := h1 }) ho1 hd1 ?_ (fits_of_scanBound hb2)
      exact hQ _ (sb1.trans (Heap.SameBut.update ..)) ⟨_, es2, ep1 + 1, _, store_at ho1 hd1, ⟨hex1.1, hex1.2.1, hex1.2.2⟩, rfl, g2, nd2, hm2, hb2, hf2, rfl, hr2, led'⟩
    · rw [if_neg c]
      dsimp only
      obtain ⟨t', order, e, p, r', ld', pl, f', _, _⟩ := laid_any hm t.finger t.moves (t.led && t2.led) (t.plain && t2.plain) (hs := es2.map (·.1)) (by rw [hashes_size]; exact hsz)
      rw [hashes_size] at p f'
      have pp := perm_pick p
      have hs2 : (order.filterMap (es2[·]?)).size = es2.size := by
        have := pp.length_eq
        rw [Array.length_toList, Array.length_toList] at this
        exact this
      rw [e]
      dsimp only
      refine wpAny_bind ?_
      refine wp_if_neg (by rw [hs2]; simp) ?_
      try refine wpAny_bind (wpAny_pure ?_)
      refine wpAny_pure ?_
      dsimp only
      refine wpAny_storeSet_of (s := { s with heap := h1 }) ho1 hd1 ?_ (by rw [hs2]; exact fits_of_scanBound hb2)
      exact hQ _ (sb1.trans (Heap.SameBut.update ..)) ⟨_, order.filterMap (es2[·]?), ep1 + 1, t', store_at ho1 hd1, ⟨hex1.1, hex1.2.1, hex1.2.2⟩, rfl, fun e he => g2 e (pp.mem_iff.mp he), (pp.map keyOf).nodup_iff.mpr nd2, fun k => (hm2 k).trans (pp.map keyOf).mem_iff.symm, by rw [hs2]; exact hb2, by rw [hs2]; exact f', hs2, r', by rw [ld']; exact led'⟩
  refine wpAny_bind ?_
  unfold setRoomFor
  refine wpAny_bind (wpAny_setState_of hp hd (by rfl) ?_)
  dsimp only
  by_cases c : es2.size * 5 ≥ 21
  · rw [show (SetTable.fresh 0 0 ld).roomFor es2.size = some ((0 + es2.size) * 2) from if_pos (by show (0 + es2.size) * 5 ≥ 7 * 3; omega)]
    dsimp only
    refine relayE hp hd (by rfl) (by omega) fun h' o' ep' t' sb' ho' hex' hd' pe de hm hw hld => ?_
    refine wpAny_bind (wpAny_setState_of (s := { s with heap := h' }) ho' hd' (by unfold SetTable.fits SetTable.fill; rw [pe, de]; rfl) ?_)
    dsimp only
    exact fin _ t' o' ep' ⟨h', rfl, sb', ho'⟩ (hex' hex) hd' pe de hm (by omega) hld
  · rw [show (SetTable.fresh 0 0 ld).roomFor es2.size = none from if_neg (by show ¬ (0 + es2.size) * 5 ≥ 7 * 3; omega)]
    dsimp only
    refine wpAny_pure ?_
    refine wpAny_bind (wpAny_setState_of hp hd (by rfl) ?_)
    dsimp only
    exact fin s _ o 0 ⟨s.heap, rfl, Heap.SameBut.refl a s.heap, hp⟩ hex hd rfl rfl rch7 (by show es2.size ≤ 7; omega) rfl
/-- a | b -/
theorem or_sets {Q : Value → Shared → Prop} (R : SetR w s.heap a S n) (R2 : SetR w s.heap b T m) (hne : a ≠ b) (hk : n + m ≤ 15) (hz : n = 0 → m = 0)
    (hQ : ∀ h' S' n', (∀ c u, s.heap.get? c = some u → h'.get? c = some u) → SetR w h' s.heap.objs.size S' n' → (∀ k, S' k = true ↔ S k = true ∨ T k = true) → n' ≤ 15 → Q (.ref s.heap.objs.size) { s with heap := h' }) :
    wpAny (model P w) A (binaryOp .BitOr (.ref a) (.ref b)) Q E s := by
  have hT : s.TypeIs (.ref a) "set" := (R.setOf (P := P)).typeIs
  have hT2 : s.TypeIs (.ref b) "set" := (R2.setOf (P := P)).typeIs
  refine wpAny_binaryOp_same (op := .BitOr) hT hT2 F.fills_set_or F.slot_set_or (wpAny_call_entry F.slot_set_or hT entry_or ?_ (F.args_set_or_2 _ _))
  rw [or_eq]
  unfold orB
  refine wpAny_bind (m := Builtin.Frozenset.slot1 "__or__" _) (wpAny_of_eq (a := (Value.ref a, Value.ref b)) (by rfl) ?_)
  dsimp only
  refine wpAny_bind (wpAny_bind (any_set hT ?_))
  refine any_set hT2 ?_
  simp only [Bool.not_true, Bool.false_eq_true, if_false]
  refine wpAny_bind (wpAny_pure ?_)
  refine wpAny_bind ?_
  unfold uni
  refine wpAny_bind ?_
  unfold Builtin.Frozenset.copyOf Builtin.Frozenset.baseOf
  refine wpAny_bind (wpAny_bind (wpAny_isInstance (b := true) hT sub_set_self (wpAny_pure ?_)))
  simp only [if_true]
  refine wpAny_bind (newSet_at ?_)
  refine wpAny_bind (wpAny_pure ?_)
  have ha := R.lt
  have hb := R2.lt
  have R1 : SetR w (s.heap.push { cls := .type "set", dict := none, data := .set #[] 0 (.fresh 0 0 (!w.params.followText "set-order")) }) a S n := R.at fun o q => Heap.get?_push_of_some _ q
  refine wpAny_bind (merge_new (s := { s with heap := s.heap.push { cls := .type "set", dict := none, data := .set #[] 0 (.fresh 0 0 (!w.params.followText "set-order")) } }) (a := s.heap.objs.size) (ld := !w.params.followText "set-order") (by
    cases w.params.followText "set-order"
    · exact .inr rfl
    · exact .inl rfl) ⟨rfl, rfl, rfl⟩ rfl (Heap.get?_push_size _ rfl) R1 (Nat.ne_of_gt ha) (by omega) fun h1 sb1 Rn => ?_)
  refine wpAny_pure ?_
  have kp := same_push sb1
  have R21 : SetR w h1 b T m := R2.at fun o q => kp _ _ q
  have hne2 : (Value.ref b != Value.ref a) = true := by
    rw [bne_iff_ne]
    intro z
    cases z
    exact hne rfl
  dsimp only
  rw [hne2]
  simp only [if_true]
  refine wpAny_bind (wpAny_pure ?_)
  refine wpAny_bind (wpAny_holding ?_)
  unfold Builtin.Frozenset.updateFrom
  have hT3 : Shared.TypeIs { s with heap := h1 } (.ref b) "set" := (R21.setOf (P := P)).typeIs
  refine wpAny_bind (any_set (s := { s with heap := h1 }) hT3 ?_)
  simp only [if_true]
  refine wpAny_bind (wpAny_pure ?_)
  unfold Builtin.Frozenset.merge
  obtain ⟨ob, eb, pb, tb, hob, hexb, hdb, gb, ndb, hmb, hbb, hfb, hnb, hrb, hlb⟩ := id R21
  have fin2 : ∀ h' S' n', Heap.SameBut s.heap.objs.size h1 h' → SetR w h' s.heap.objs.size S' n' → (∀ k, S' k = true ↔ S k = true ∨ T k = true) → n' ≤ 15 → wpAny (model P w) A.in1 (pure (Value.ref s.heap.objs.size)) (fun x s' => wpAny (model P w) A.in1 (ret x) (fun fin s' => ∃ v, fin = Fin.done (Flow.ret v) ∧ v ≠ Value.notImplemented ∧ Q v s') E s') E { s with heap := h' } := fun h' S' n' sb' R' hk' hn' =>
    wpAny_pure (wpAny_pure ⟨_, rfl, (fun z => nomatch z), hQ h' S' n' (fun c u q => by
      have hlt := Heap.lt_size q
      rw [sb'.2 c (Nat.ne_of_lt hlt)]
      exact kp c u q) R' hk' hn'⟩)
  refine wpAny_bind (m := setEpoch b) ?_
  unfold setEpoch
  refine wpAny_bind (wpAny_setState_of (s := { s with heap := h1 }) hob hdb hfb (wpAny_pure ?_))
  dsimp only
  by_cases h0 : n = 0
  · have hm0 := hz h0
    subst h0
    subst hm0
    have e0 : eb = #[] := Array.eq_empty_of_size_eq_zero hnb
    subst e0
    unfold setMerge
    rw [show (s.heap.objs.size == b) = false from beq_eq_false_iff_ne.mpr (Nat.ne_of_gt hb)]
    simp only [Bool.false_eq_true, if_false]
    refine wpAny_bind (wpAny_setState_of (s := { s with heap := h1 }) hob hdb hfb ?_)
    dsimp only
    refine wpAny_pure ?_
    refine fin2 h1 S 0 (Heap.SameBut.refl _ _) Rn (fun k => ?_) (by omega)
    have : ¬ T k = true := fun z => by have := (hmb k).mp z; simp at this
    simp [this]
  · refine merge_some (s := { s with heap := h1 }) Rn R21 (Nat.ne_of_gt hb) (by omega) hk (fun h' Q' hb' hq => ?_) fun h' S' n' sb' R' hk' hn' => fin2 h' S' n' sb' R' hk' hn'
    unfold Builtin.Frozenset.unchanged
    refine wpAny_bind (m := setEpoch b) ?_
    unfold setEpoch
    refine wpAny_bind (wpAny_setState_of (s := { s with heap := h' }) (hb' _ hob) hdb hfb (wpAny_pure ?_))
    dsimp only
    refine wp_if_neg (by simp) ?_
    exact wpAny_pure hq
end
end Su

set_option maxHeartbeats 3200000
/-! HSd: the set of a dict's keys, of a list of ints. -/
namespace Su
open PySem PySem.Spec PyProof.Rows L2
section
variable {P : Program} {w : World} {A : Around} {E : Value → Shared → Prop} {s : Shared} {a b : Addr} {S T : Int → Bool} {n m : Nat}
theorem room_new {more : Nat} {Q : Unit → Shared → Prop} {o : Obj} {ld : Bool} (hl : w.params.followText "set-order" = true ∨ ld = true) (hex : o.ExactSet) (hd : o.data = .set #[] 0 (.fresh 0 0 ld)) (hp : s.heap.get? a = some o) (hk : more ≤ 15)
    (hQ : ∀ h', Heap.SameBut a s.heap h' → SetR w h' a (fun _ => false) 0 → Q () { s with heap := h' }) : wpAny (model P w) A (setRoomFor a more) Q E s := by
  have R0 : SetR w s.heap a (fun _ => false) 0 := ⟨o, #[], 0, _, hp, hex, hd, (fun e he => by simp at he), (by simp), (fun k => by simp), (by decide), (by rfl), rfl, List.Pairwise.nil, hl⟩
  unfold setRoomFor
  refine wpAny_bind (wpAny_setState_of hp hd (by rfl) ?_)
  dsimp only
  by_cases c : more * 5 ≥ 21
  · rw [show (SetTable.fresh 0 0 ld).roomFor more = some ((0 + more) * 2) from if_pos (by show (0 + more) * 5 ≥ 7 * 3; omega)]
    dsimp only
    refine relayE hp hd (by rfl) (by omega) fun h' o' ep' t' sb' ho' hex' hd' pe de hm hw hld => ?_
    refine hQ h' sb' ⟨o', #[], ep', t', ho', hex' hex, hd', (fun e he => by simp at he), (by simp), (fun k => by simp), (by decide), (by unfold SetTable.fits SetTable.fill; rw [pe, de]; rfl), rfl, by rw [pe]; exact List.Pairwise.nil, by rw [hld]; exact hl⟩
  · rw [show (SetTable.fresh 0 0 ld).roomFor more = none from if_neg (by show ¬ (0 + more) * 5 ≥ 7 * 3; omega)]
    dsimp only
    exact wpAny_pure (hQ s.heap (Heap.SameBut.refl a s.heap) R0)
theorem new_led (x : Value) {R : Value → Shared → Prop}
    (h : R (.ref s.heap.objs.size) { s with heap := s.heap.push { cls := .type "set", dict := none, data := .set #[] 0 (.fresh 0 0 (!w.params.followText "set-order")) } }) :
    codeAny (model P w) A (.call (.builtin "set.__new__") ⟨[.type "set", x], []⟩) (wants R E) s := by
  have hq := PySem.F.newCall_set_1 x
  refine codeAny_of_tree (show wpAny _ A.in1 (do checkBuiltinCall "set.__new__" ⟨[.type "set", x], []⟩; again (.builtin "set.__new__" ⟨[.type "set", x], []⟩)) _ _ s from wpAny_bind (wpAny_of_eq hq (wpAny_pure ⟨plainId_quiet F.plain_set_new _, codeAny_builtin F.entry_set_new ?_⟩)))
  rw [Around.under_plainId F.plain_set_new _]
  unfold Builtin.«set.__new__» Builtin.Frozenset.newClass
  have hs := sub_set_self
  obtain ⟨hp, g, d, tk, os⟩ := s
  dsimp only
  wp_walk
  refine wpAny_askSetting (wpAny_pure ?_)
  dsimp only
  simp only [newObj]
  exact wpAny_bind (wpAny_alloc (wpAny_pure (wpAny_pure h)))
/-- set(x), where the body of __init__ is shown -/
theorem set_of {x : Value} {Q : Value → Shared → Prop}
    (h : ∀ s1 : Shared, s1 = { s with heap := s.heap.push { cls := .type "set", dict := none, data := .set #[] 0 (.fresh 0 0 (!w.params.followText "set-order")) } } →
      wpAny (model P w) A.in1.in1 (Builtin.«set.__init__» ⟨[.ref s.heap.objs.size, x], []⟩) (fun r s2 => r = .done (.ret .none) ∧ Q (.ref s.heap.objs.size) s2) E s1) :
    wpAny (model P w) A (call (.type "set") [x]) Q E s := by
  obtain ⟨c, tl, hmro⟩ := PySem.F.called_set.mro
  have hmade := PySem.F.called_set.made
  have hsub := PySem.F.called_set.sub
  refine wpAny_call (codeAny_of_tree ?_)
  show wpAny _ _ (callAny (.type "set") _) _ _ _
  refine wpAny_pure ⟨Code.quiet_builtin _ (by decide +kernel), codeAny_builtin PySem.F.entry_type_call ?_⟩
  rw [Around.under_plain (weight_type_call_type "set" [x] []) rfl]
  have h1 := PySem.F.called_set.notType
  have h2 := PySem.F.called_set.canCreate
  have hct := PySem.F.typeCall_set_1 x
  repeat (any_goals (first | assumption | wp_step))
  refine codeAny_mono (new_led x (E := E) (R := fun obj s₁ => obj = .ref s.heap.objs.size ∧ s₁ = { s with heap := s.heap.push { cls := .type "set", dict := none, data := .set #[] 0 (.fresh 0 0 (!w.params.followText "set-order")) } }) ⟨rfl, rfl⟩) fun r s₁ hr => ?_
  cases r with
  | error e => exact hr
  | ok fl =>
    cases fl with
    | ret obj =>
      obtain ⟨rfl, e1⟩ := hr
      have h0 := h s₁ e1
      have hS : s₁.heap.get? s.heap.objs.size = some { cls := .type "set", dict := none, data := .set #[] 0 (.fresh 0 0 (!w.params.followText "set-order")) } := by rw [e1]; exact Heap.get?_push_size _ rfl
      have hT : Shared.TypeIs s₁ (.ref s.heap.objs.size) "set" := ⟨_, hS, rfl⟩
      have hli := PySem.F.called_set.init.lookup
      have hbi := PySem.F.called_set.init.bind (.ref s.heap.objs.size)
      clear e1 hS
      repeat (any_goals (first | assumption | wp_step))
      refine codeAny_mono (codeAny_call_builtin (R := wants (fun r s₂ => r = .none ∧ Q (.ref s.heap.objs.size) s₂) E) PySem.F.called_set.init.plain PySem.F.entry_set_init (PySem.check_set_init_1 hT ?_)) fun r2 s2 hr2 => ?_
      · refine wpAny_mono h0 (fun fin s2 hf => ?_) fun e s2 he => he
        obtain ⟨rfl, hq⟩ := hf
        exact ⟨rfl, hq⟩
      · cases r2 with
        | error e => exact hr2
        | ok fl2 =>
          cases fl2 with
          | ret r =>
            obtain ⟨rfl, hq⟩ := hr2
            repeat (any_goals (first | assumption | wp_step))
          | _ => exact hr2.elim
    | _ => exact hr.elim
/-- set(d), the keys of d ints -/
theorem set_dict {d : Addr} {o : Obj} {es : Array DictEntry} {ep : Nat} {Q : Value → Shared → Prop} (hne : (d == sysModules) = false) (ho : s.heap.get? d = some o) (hx : o.ExactDict) (hd : o.data = .dict es ep)
   (hk : ∀ e ∈ es.toList, ∃ k tk, e.key = Value.int k tk ∧ e.hash = hashInt k) (hz : es.size ≤ 15)
   (hQ : ∀ h' S n, (∀ c u, s.heap.get? c = some u → h'.get? c = some u) → SetR w h' s.heap.objs.size S n → (∀ k, S k = true ↔ ∃ e ∈ es.toList, ∃ tk, e.key = Value.int k tk) → n ≤ es.size → (n = 0 → es.size = 0) → Q (.ref s.heap.objs.size) { s with heap := h' }) :
   wpAny (model P w) A (call (.type "set") [.ref d]) Q E s := by
  refine set_of fun s1 e1 => ?_
  obtain ⟨O, hO⟩ : ∃ O : Obj, O = { cls := .type "set", dict := none, data := .set #[] 0 (.fresh 0 0 (!w.params.followText "set-order")) } := ⟨_, rfl⟩
  rw [← hO] at e1
  have hS : s1.heap.get? s.heap.objs.size = some O := by rw [e1]; exact Heap.get?_push_size _ (by rw [hO]; rfl)
  have hex : O.ExactSet := by rw [hO]; exact ⟨rfl, rfl, rfl⟩
  have hOd : O.data = .set #[] 0 (.fresh 0 0 (!w.params.followText "set-order")) := by rw [hO]
  have hd1 : s1.heap.get? d = some o := by rw [e1]; exact Heap.get?_push_of_some _ ho
  have hlt := Heap.lt_size ho
  have hT : s1.TypeIs (.ref s.heap.objs.size) "set" := ⟨_, hS, hex.1⟩
  have hTd : s1.TypeIs (.ref d) "dict" := ⟨_, hd1, hx.1⟩
  have f1 := F.sub_dict_set
  have f2 := F.sub_dict_frozenset
  unfold Builtin.«set.__init__» noKeywords Builtin.Frozenset.updateFrom
  wp_walk
  rw [hOd]
  wp_walk
  rw [hd]
  refine wpAny_pure ?_
  refine wpAny_bind (wpAny_dictEntries hd1 hd ?_)
  refine wpAny_bind (room_new (s := { heap := s1.heap, gens := s1.gens, drawn := s1.drawn, toks := s1.toks, os := s1.os }) (by
    cases w.params.followText "set-order"
    · exact .inr rfl
    · exact .inl rfl) hex hOd hS hz fun h1 sb1 R1 => ?_)
  have kp1 : ∀ c u, s.heap.get? c = some u → h1.get? c = some u := fun c u e => by
    have hc := Heap.lt_size e
    rw [sb1.2 c (Nat.ne_of_lt hc)]
    show s1.heap.get? c = some u
    rw [e1]
    exact Heap.get?_push_of_some _ e
  refine wpAny_bind (wpAny_dictEntries (kp1 _ _ ho) hd ?_)
  refine wpAny_bind ?_
  rw [Std.Legacy.Range.forIn_eq_forIn_range']
  simp only [Std.Legacy.Range.size, Nat.sub_zero, Nat.add_sub_cancel, Nat.div_one]
  refine wpAny_forIn_list _
    (fun rest _ s' => ∃ h' i S n, s' = { s1 with heap := h' } ∧ rest = List.range' i (es.size - i) ∧ i ≤ es.size ∧ SetR w h' s.heap.objs.size S n ∧ n ≤ i ∧ (n = 0 → i = 0) ∧ (∀ k, S k = true ↔ ∃ e ∈ es.toList.take i, ∃ tk, e.key = Value.int k tk) ∧ ∀ c u, s.heap.get? c = some u → h'.get? c = some u)
    _ ?_ ?_ _ _ ⟨h1, 0, _, 0, rfl, by simp, Nat.zero_le _, R1, Nat.le_refl _, fun _ => rfl, fun k => by simp, kp1⟩
  · rintro x rest b s' ⟨h', i, S, n, rfl, hr, hi, hR, hn, hn0, hm, kp⟩
    have hlt : i < es.size := by
      rcases Nat.lt_or_ge i es.size with h | h
      · exact h
      · rw [Nat.sub_eq_zero_of_le h] at hr; simp at hr
    obtain ⟨rfl, hrest⟩ : x = i ∧ rest = List.range' (i + 1) (es.size - (i + 1)) := by
      rw [show es.size - i = (es.size - (i + 1)) + 1 by omega, List.range'_succ] at hr
      injection hr with a1 a2
      exact ⟨a1, a2⟩
    refine wpAny_bind (wpAny_dictEntries (kp _ _ ho) hd ?_)
    have hg : es[x]? = some es[x] := Array.getElem?_eq_getElem hlt
    rw [hg]
    obtain ⟨k, tk, q1, q2⟩ := hk es[x] (Array.getElem_mem_toList hlt)
    dsimp only
    rw [q1, q2]
    refine wpAny_bind (wpAny_holding ?_)
    refine setR_add_hashed (P := P) (s := { s1 with heap := h' }) (k := k) (tk := tk) hR (by unfold scanBound; omega) fun h2 sb2 R2 => ?_
    have kp2 : ∀ c u, s.heap.get? c = some u → h2.get? c = some u := fun c u e => (sb2.2 c (Nat.ne_of_lt (Heap.lt_size e))).trans (kp c u e)
    refine wpAny_bind (wpAny_dictEpoch (kp2 _ _ ho) hd ?_)
    refine wp_if_neg (by simp) ?_
    refine wpAny_pure ⟨h2, x + 1, _, _, rfl, hrest, hlt, R2, by split <;> omega, ?_, fun j => ?_, kp2⟩
    · split
      · rename_i hS1
        intro z
        have := hn0 z
        subst this
        have := (hm k).mp hS1
        simp at this
      · intro z; omega
    · rw [Bool.or_eq_true, decide_eq_true_eq, hm j]
      have et : es.toList.take (x + 1) = es.toList.take x ++ [es[x]] := by rw [List.take_add_one, Array.getElem?_toList, hg]; rfl
      rw [et]
      constructor
      · rintro (⟨e, he, tk', q⟩ | rfl)
        · exact ⟨e, List.mem_append_left _ he, tk', q⟩
        · exact ⟨es[x], List.mem_append_right _ List.mem_cons_self, tk, q1⟩
      · rintro ⟨e, he, tk', q⟩
        rcases List.mem_append.mp he with he | he
        · exact .inl ⟨e, he, tk', q⟩
        · obtain rfl := List.mem_singleton.mp he
          rw [q1] at q
          cases q
          exact .inr rfl
  · rintro b s' ⟨h', i, S, n, rfl, hr, hi, hR, hn, hn0, hm, kp⟩
    have hin : i = es.size := by
      rcases Nat.lt_or_ge i es.size with h | h
      · rw [show es.size - i = (es.size - (i + 1)) + 1 by omega, List.range'_succ] at hr
        exact nomatch hr
      · exact Nat.le_antisymm hi h
    subst hin
    have et : es.toList.take es.size = es.toList := List.take_of_length_le (Nat.le_of_eq Array.length_toList)
    rw [et] at hm
    have e2 : ({ s1 with heap := h' } : Shared) = { s with heap := h' } := by rw [e1]
    refine wpAny_pure (wpAny_pure ⟨rfl, ?_⟩)
    rw [e2]
    exact hQ h' S n kp hR hm hn hn0
end
end Su

set_option maxHeartbeats 200000
set_option maxHeartbeats 1600000
/-! HSe: sorted(set(d) | set(e)), d and e dicts with int keys. -/
namespace Gs
open PySem PySem.Spec PyProof.Rows L2
/-- set(d), d a dict of at most seven int keys -/
def rSetD (w : World) : List V → Hp → VK → Prop := fun xs H Q => ∃ (a : Addr) (kvs : List (Key × V)), xs = [V.ref a] ∧ Rd H a (.dK kvs) ∧ kvs.length ≤ 7 ∧ (∀ p ∈ kvs, ∃ i : Int, p.1 = .inl i) ∧
  ∀ (p : Addr) (S : Int → Bool) (n : Nat), (∀ k : Int, S k = true ↔ (.inl k : Key) ∈ kvs.map (·.1)) → n ≤ kvs.length → (n = 0 → kvs = []) → H p = none → Q (.ref p) (upd H p (SetO w p S n))
/-- the keys and entries of a dict of ints, side by side -/
theorem pairs_int {P : Program} {w : World} : ∀ {es : List DictEntry} {vs : List (Key × Value)} {kvs : List (Key × V)}, PySem.Pairs (mixKind P w) es vs → KV kvs vs → (∀ p ∈ kvs, ∃ i : Int, p.1 = .inl i) →
    es.length = kvs.length ∧ (∀ e ∈ es, ∃ i tk, e.key = Value.int i tk) ∧ ∀ k : Int, (∃ e ∈ es, ∃ tk, e.key = Value.int k tk) ↔ (.inl k : Key) ∈ kvs.map (·.1)
  | _, _, _, .nil, .nil, _ => ⟨rfl, (fun e h => absurd h List.not_mem_nil), fun k => by simp⟩
  | _, _, _, .cons (e := e) h1 h2 r, .cons (a := a) hp rr, hi => by
    obtain ⟨l, g, m⟩ := pairs_int r rr fun p hp => hi p (List.mem_cons_of_mem _ hp)
    obtain ⟨i, ei⟩ := hi a List.mem_cons_self
    have hk : keyIs (.inl i) e.key = true := by
      have := h1
      rw [← hp.1, ei] at this
      exact this
    have ek : ∃ t, e.key = Value.int i t := by
      rcases keyIs_shape hk with ⟨j, t, q1, q2⟩ | ⟨x, t, q1, q2⟩
      · cases q1; exact ⟨t, q2⟩
      · exact nomatch q1
    obtain ⟨t, ek⟩ := ek
    refine ⟨by simp [l], fun e' he => ?_, fun k => ?_⟩
    · rcases List.mem_cons.mp he with rfl | he
      · exact ⟨i, t, ek⟩
      · exact g e' he
    · rw [List.map_cons, List.mem_cons, ← m k, ei]
      constructor
      · rintro ⟨e', he, tk, q⟩
        rcases List.mem_cons.mp he with rfl | he
        · rw [ek] at q; cases q; exact .inl rfl
        · exact .inr ⟨e', he, tk, q⟩
      · rintro (q | ⟨e', he, tk, q⟩)
        · cases q; exact ⟨e, List.mem_cons_self, t, ek⟩
        · exact ⟨e', List.mem_cons_of_mem _ he, tk, q⟩
section
variable {X : Cx}
theorem cr_setD : CallR X (.type "set") (rSetD X.w) := by
  intro pins s σ H xs us Q I r h
  obtain ⟨a, kvs, rfl, rd, hl, hi, q⟩ := h
  rw [Vals.ref1 r]
  obtain ⟨_, ne, vs, kv, o, es, ep, ho, hx, hd, hk, hp, hno⟩ := dk_rd I.hok rd
  obtain ⟨l, g, m⟩ := pairs_int hp kv hi
  rw [Array.length_toList] at l
  refine Su.set_dict ne ho hx hd (fun e he => ?_) (by omega) fun h' S n kp R hm hn hn0 => ?_
  · obtain ⟨i, tk, e1⟩ := g e he
    obtain ⟨k, k1, k2⟩ := hk e (Array.mem_toList_iff.mp he)
    refine ⟨i, tk, e1, ?_⟩
    rw [k2]
    have k1' : keyIs k e.key = true := k1
    rw [e1] at k1'
    rcases keyIs_shape k1' with ⟨j, t, q1, q2⟩ | ⟨x, t, q1, q2⟩
    · cases q2; rw [q1]; rfl
    · exact nomatch q2
  · exact ⟨.ref _, upd H s.heap.objs.size (SetO X.w s.heap.objs.size S n), I.laid (t' := s.toks) kp (Nat.le_refl _) (setO_new R), rfl, q _ S n (fun k => (hm k).trans (m k)) (by omega) (fun z => List.eq_nil_of_length_eq_zero (by have := hn0 z; omega)) (I.hok.fresh (Nat.le_refl _))⟩
def rSetOr (w : World) : V → V → Hp → VK → Prop := fun x y H Q => ∃ (a b : Addr) (S T : Int → Bool) (n m : Nat), x = V.ref a ∧ y = V.ref b ∧ a ≠ b ∧ H a = some (SetO w a S n) ∧ H b = some (SetO w b T m) ∧ n + m ≤ 15 ∧ (n = 0 → m = 0) ∧
  ∀ (p : Addr) (U : Int → Bool) (k : Nat), (∀ j, U j = true ↔ S j = true ∨ T j = true) → k ≤ 15 → H p = none → Q (.ref p) (upd H p (SetO w p U k))
theorem or_setor : OpR X (binaryOp .BitOr) (rSetOr X.w) := by
  intro pins s σ H x y v u Q I rx ry h
  obtain ⟨a, b, S, T, n, m, rfl, rfl, hne, ha, hb, hk, hz, q⟩ := h
  cases rx
  cases ry
  refine Su.or_sets (setO_get I ha) (setO_get I hb) hne hk hz fun h' U k kp R hm hn => ?_
  exact ⟨.ref _, upd H s.heap.objs.size (SetO X.w s.heap.objs.size U k), I.laid (t' := s.toks) kp (Nat.le_refl _) (setO_new R), rfl, q _ U k hm hn (I.hok.fresh (Nat.le_refl _))⟩
end
/-- the ints in order, each once -/
def unionK (ks : List Key) : List Int := ks.filterMap fun k => match k with
  | .inl i => some i
  | .inr _ => none
def sortU (xs : List Int) : List Int := (xs.eraseDups).mergeSort (fun a b => decide (a ≤ b))
def keysI (kvs : List (Key × D)) : Bool := kvs.all fun p => match p.1 with
  | .inl _ => true
  | .inr _ => false
/-- sorted(set(d) | set(e)): a new list -/
def eSortU (f g : E) : E := fun δ s => (f δ s).bind fun x s1 => match dkO s1 x with
  | some kx => if kx.length ≤ 7 ∧ keysI kx = true then ((g δ s1).bind fun y s2 => match dkO s2 y with
    | some ky => if ky.length ≤ 7 ∧ keysI ky = true ∧ (kx = [] → ky = []) then .ok (.lst ((sortU (unionK ((kx ++ ky).map (·.1)))).map .int)) s2 else .stk
    | none => .stk) else .stk
  | none => .stk
theorem eraseDups_mem {α : Type} [BEq α] [LawfulBEq α] {l : List α} {x : α} : x ∈ l.eraseDups ↔ x ∈ l := by simp
theorem pw_uniq : ∀ {l m : List Int}, l.Pairwise (· < ·) → m.Pairwise (· < ·) → (∀ k, k ∈ l ↔ k ∈ m) → l = m
  | [], [], _, _, _ => rfl
  | [], y :: m, _, _, h => absurd ((h y).mpr List.mem_cons_self) List.not_mem_nil
  | x :: l, [], _, _, h => absurd ((h x).mp List.mem_cons_self) List.not_mem_nil
  | x :: l, y :: m, hl, hm, h => by
    obtain ⟨a1, a2⟩ := List.pairwise_cons.mp hl
    obtain ⟨b1, b2⟩ := List.pairwise_cons.mp hm
    have e : x = y := by
      rcases List.mem_cons.mp ((h x).mp List.mem_cons_self) with e | hx
      · exact e
      · rcases List.mem_cons.mp ((h y).mpr List.mem_cons_self) with e | hy
        · exact e.symm
        · have := a1 y hy; have := b1 x hx; omega
    subst e
    rw [pw_uniq a2 b2 fun k => ?_]
    have hk := h k
    rw [List.mem_cons, List.mem_cons] at hk
    constructor
    · intro z
      rcases hk.mp (.inr z) with q | q
      · subst q; have := a1 _ z; omega
      · exact q
    · intro z
      rcases hk.mpr (.inr z) with q | q
      · subst q; have := b1 _ z; omega
      · exact q
theorem sortU_mem {xs : List Int} {k : Int} : k ∈ sortU xs ↔ k ∈ xs := by
  unfold sortU
  rw [List.mem_mergeSort, eraseDups_mem]
theorem nodup_eraseDups : ∀ (n : Nat) (l : List Int), l.length ≤ n → l.eraseDups.Nodup
  | 0, l, h => by
    have e : l = [] := List.eq_nil_of_length_eq_zero (by omega)
    subst e
    simp
  | n + 1, [], _ => by simp
  | n + 1, x :: l, h => by
    rw [List.eraseDups_cons, List.nodup_cons]
    refine ⟨fun z => ?_, nodup_eraseDups n _ ?_⟩
    · rw [eraseDups_mem, List.mem_filter] at z
      simp at z
    · have := List.length_filter_le (fun b => !b == x) l
      simp only [List.length_cons] at h
      omega
theorem sortU_pw (xs : List Int) : (sortU xs).Pairwise (· < ·) := by
  unfold sortU
  have h1 := List.pairwise_mergeSort (le := fun a b : Int => decide (a ≤ b)) (fun a b c h1 h2 => by simp at *; omega) (fun a b => by simp; omega) xs.eraseDups
  have h2 : ((xs.eraseDups).mergeSort (fun a b => decide (a ≤ b))).Nodup := (List.mergeSort_perm xs.eraseDups _).nodup_iff.mpr (nodup_eraseDups _ xs (Nat.le_refl _))
  refine List.Pairwise.imp₂ (fun a b ha hb => ?_) h1 h2
  have : a ≤ b := by simpa using ha
  have : a ≠ b := hb
  omega
theorem keysI_all {K : PySem.W.Frag} {ct : String → Addr} {G : Hp} {m : Nat → Option Addr} {kvs : List (Key × D)} {vs : List (Key × V)} (r : RepP K ct G m kvs vs) (h : keysI kvs = true) : ∀ p ∈ vs, ∃ i : Int, p.1 = .inl i := by
  intro p hp
  have : p.1 ∈ kvs.map (·.1) := by rw [r.keys]; exact List.mem_map_of_mem hp
  obtain ⟨q, hq, e⟩ := List.mem_map.mp this
  unfold keysI at h
  have := List.all_eq_true.mp h q hq
  rw [← e]
  cases z : q.1 with
  | inl i => exact ⟨i, rfl⟩
  | inr x => rw [z] at this; exact nomatch this
theorem unionK_mem {ks : List Key} {k : Int} : k ∈ unionK ks ↔ (.inl k : Key) ∈ ks := by
  unfold unionK
  rw [List.mem_filterMap]
  constructor
  · rintro ⟨a, ha, e⟩
    cases a with
    | inl i => cases e; exact ha
    | inr x => exact nomatch e
  · intro h
    exact ⟨_, h, rfl⟩
theorem repL_intsI {K : PySem.W.Frag} {ct : String → Addr} {G : Hp} {m : Nat → Option Addr} (ns : List Int) : RepL K ct G m (ns.map D.int) (ns.map V.int) := RepL.ints ns
section
variable {X : Cx} {C : Cc}
theorem se_sortU {a b : Expr} {fa fb : E} {p p1 p2 p3 q1 q2 q3 : Pos} (hg : Gl X "sorted") (hm : X.mg "sorted" = none) (hg2 : Gl X "set") (hm2 : X.mg "set" = none) (ha : SE X C a fa) (hb : SE X C b fb) (hc : X.calm = true := by rfl)
    (na : starEach [a] X.env = (false, eval a X.env) :: starEach [] X.env := by rfl) (nb : starEach [b] X.env = (false, eval b X.env) :: starEach [] X.env := by rfl)
    (nc : starEach [Expr.BinOp (.Call (.Name "set" p1) [a] [] q1) .BitOr (.Call (.Name "set" p2) [b] [] q2) p3] X.env = (false, eval (Expr.BinOp (.Call (.Name "set" p1) [a] [] q1) .BitOr (.Call (.Name "set" p2) [b] [] q2) p3) X.env) :: starEach [] X.env := by rfl)
    (hpl : (backTo q1 (starEach [] X.env)).any (·.1) = false := by rfl) (hpl2 : (backTo q2 (starEach [] X.env)).any (·.1) = false := by rfl) (hpl3 : (backTo q3 (starEach [] X.env)).any (·.1) = false := by rfl) :
    SE X C (.Call (.Name "sorted" p) [.BinOp (.Call (.Name "set" p1) [a] [] q1) .BitOr (.Call (.Name "set" p2) [b] [] q2) p3] [] q3) (eSortU fa fb) :=
  pe_weak (pe_callB (cr_sortedSet hc) hg hm boot_sorted (pa_cons (pe_op or_setor (pe_callTy cr_setD hg2 hm2 boot_set (pa_cons ha pa_nil na) (by decide) (by decide) na hpl) (pe_callTy cr_setD hg2 hm2 boot_set (pa_cons hb pa_nil nb) (by decide) (by decide) nb hpl2)) pa_nil nc) (by decide) (by decide) nc hpl3) fun σ H Q ⟨δ, v, re, eH, h⟩ => ⟨δ, v, re, eH, on_mono (on_bind h) fun d x v1 l1 s1 r1 h1 => by
    cases z1 : dkO v1.st d with
    | none => rw [z1] at h1; exact h1.elim
    | some kx =>
      rw [z1] at h1
      dsimp only at h1
      split at h1
      · rename_i c1
        obtain ⟨a1, vx, rfl, rd1, rp1⟩ := dkO_at s1 r1 z1
        have len1 : kx.length = vx.length := rp1.length
        refine ⟨a1, vx, rfl, rd1, by omega, keysI_all rp1 c1.2, fun p S n hS hn hn0 hp => ?_⟩
        obtain ⟨l2, s2⟩ := new_ok (o := SetO X.w p S n) s1 hp
        have rn := re.step l1 s1 |>.step l2 s2
        refine ⟨δ, v1.new p (SetO X.w p S n), rn, rfl, on_mono (on_bind (on_step l2 h1)) fun d2 y v2 l3 s3 r2 h2 => ?_⟩
        cases z2 : dkO v2.st d2 with
        | none => rw [z2] at h2; exact h2.elim
        | some ky =>
          rw [z2] at h2
          dsimp only at h2
          split at h2
          · rename_i c2
            obtain ⟨a2, vy, rfl, rd2, rp2⟩ := dkO_at s3 r2 z2
            have len2 : ky.length = vy.length := rp2.length
            refine ⟨a2, vy, rfl, rd2, by omega, keysI_all rp2 c2.2.1, fun q T m hT hm' hm0 hq => ?_⟩
            obtain ⟨l4, s4⟩ := new_ok (o := SetO X.w q T m) s3 hq
            have gp : v2.G p = some (SetO X.w p S n) := l3.g _ _ upd_same
            have hp2 : v2.H p = some (SetO X.w p S n) := s3.sub _ _ gp
            have hpq : p ≠ q := fun e => by subst e; rw [hp2] at hq; exact nomatch hq
            have e0 : n = 0 → m = 0 := fun z => by
              have e1 := hn0 z
              subst e1
              have e2 : kx = [] := List.eq_nil_of_length_eq_zero (by simpa using len1)
              have e3 := c2.2.2 e2
              subst e3
              have : vy.length = 0 := by simpa using len2.symm
              omega
            refine ⟨p, q, S, T, n, m, rfl, rfl, hpq, (upd_ne hpq).trans hp2, upd_same, by omega, e0, fun r U k hU hk hr => ?_⟩
            obtain ⟨l5, s5⟩ := new_ok (v := v2.new q (SetO X.w q T m)) (o := SetO X.w r U k) s4 hr
            refine ⟨r, U, k, rfl, upd_same, by omega, fun ns l hs hmem hlen hl => ?_⟩
            obtain ⟨l6, s6⟩ := new_ok (v := (v2.new q (SetO X.w q T m)).new r (SetO X.w r U k)) (o := .lst (ns.map V.int)) s5 hl
            have en : ns = sortU (unionK ((kx ++ ky).map (·.1))) := pw_uniq hs (sortU_pw _) fun j => by
              rw [hmem j, hU j, hS j, hT j, sortU_mem, unionK_mem, List.map_append, List.mem_append, rp1.keys, rp2.keys]
            have L := (l4.trans l5).trans l6
            subst en
            exact h2 (.ref l) _ L s6 rfl (.lst (.inl (.inl upd_same)) (repL_intsI _))
          · exact h2.elim
      · exact h1.elim⟩
end
@[simp] theorem v_eSortU (f g : E) (δ : Sl) (s : Sto) : eSortU f g δ s = (f δ s).bind fun x s1 => match dkO s1 x with
  | some kx => if kx.length ≤ 7 ∧ keysI kx = true then ((g δ s1).bind fun y s2 => match dkO s2 y with
    | some ky => if ky.length ≤ 7 ∧ keysI ky = true ∧ (kx = [] → ky = []) then .ok (.lst ((sortU (unionK ((kx ++ ky).map (·.1)))).map .int)) s2 else .stk
    | none => .stk) else .stk
  | none => .stk := id rfl
end Gs

set_option maxHeartbeats 200000
set_option maxHeartbeats 1600000
/-! GDe: d.setdefault(k, z), d a dict of the store. -/
namespace Gs
open PySem PySem.Spec PyProof.Rows L2
def isOb : D → Bool
  | .ob _ => true
  | _ => false
def eDSetd (o k e : E) : E := fun δ s => (o δ s).bind fun x s1 => if (dkO s1 x).isSome = true then ((k δ s1).bind fun y s2 => (e δ s2).bind fun z s3 => match x, keyD y with
  | .ob i, some kk => (match s3[i]? with
    | some (.dK kvs) => if kvs.length < sizeLine then (match valD kvs kk with
      | some d => .ok d s3
      | none => .ok z (s3.set i (.dK (putKD kvs kk z)))) else .stk
    | _ => .stk)
  | _, _ => .stk) else .stk
section
variable {X : Cx} {C : Cc} {o k e : Expr} {fo fk fe : E} {apos cpos : Pos}
theorem se_dsetd (ho : SE X C o fo) (hk : SE X C k fk) (he : SE X C e fe) (m : M2 X o "setdefault" apos k e cpos := by exact ⟨rfl, rfl, rfl, rfl⟩) : SE X C (.Call (.Attribute o "setdefault" apos) [k, e] [] cpos) (eDSetd fo fk fe) :=
  pe_weak (pe_dsetd ho hk he m) fun σ H Q ⟨δ, v, re, eH, h⟩ => ⟨δ, v, re, eH, on_mono (on_bind h) fun d x v1 l1 s1 r1 h1 => by
    split at h1
    · rename_i hs
      obtain ⟨kv0, e0⟩ := isSome_of hs
      obtain ⟨a, vs0, rfl, rd0, _⟩ := dkO_at s1 r1 e0
      refine ⟨a, rfl, .inl ⟨vs0, rd0⟩, δ, v1, re.step l1 s1, rfl, on_mono (on_bind h1) fun d2 y v2 l2 s2 r2 h2 => ⟨δ, v2, (re.step l1 s1).step l2 s2, rfl, on_mono (on_bind h2) fun d3 z v3 l3 s3 r3 h3 => ?_⟩⟩
      cases d with
      | ob i =>
        cases q2 : keyD d2 with
        | none => rw [q2] at h3; exact h3.elim
        | some kk =>
          rw [q2] at h3
          simp only at h3
          have ey := keyD_rep q2 r2
          subst ey
          cases (l2.trans l3).rep r1 with
          | @ob _ _ _ a em =>
            split at h3
            · rename_i kvs q
              split at h3
              · rename_i hz
                obtain ⟨a', em', _, vs, hh, rp⟩ := s3.obj i _ q rfl
                rw [em] at em'
                cases em'
                refine ⟨vs, kk, hh, rfl, by rw [← rp.length]; exact hz, fun u hu => ?_, fun hu => ?_⟩
                · rcases rp.val kk with ⟨z1, z2⟩ | ⟨d4, v4, z1, z2, z3⟩
                  · rw [z2] at hu; exact nomatch hu
                  · rw [z2] at hu
                    cases hu
                    rw [z1] at h3
                    exact on_self s3 h3 z3
                · rcases rp.val kk with ⟨z1, z2⟩ | ⟨d4, v4, z1, z2, z3⟩
                  · rw [z1] at h3
                    have rn := RepP.putK r3 kk rp
                    obtain ⟨l4, s4⟩ := put_ok (u := .dK (L2.putK vs kk z)) (o := .dK (putKD kvs kk d3)) s3 q rfl em (fun C b fs z => nomatch z) ⟨_, upd_same, rn⟩
                    exact h3 z (v3.put i a (.dK (L2.putK vs kk z)) (.dK (putKD kvs kk d3))) l4 s4 rfl (l4.rep r3)
                  · rw [z2] at hu; exact nomatch hu
              · exact h3.elim
            · exact h3.elim
      | _ => exact h3.elim
    · exact h1.elim⟩
end
@[simp] theorem v_eDSetd (o k e : E) (δ : Sl) (s : Sto) : eDSetd o k e δ s = (o δ s).bind fun x s1 => if (dkO s1 x).isSome = true then ((k δ s1).bind fun y s2 => (e δ s2).bind fun z s3 => match x, keyD y with
  | .ob i, some kk => (match s3[i]? with
    | some (.dK kvs) => if kvs.length < sizeLine then (match valD kvs kk with
      | some d => .ok d s3
      | none => .ok z (s3.set i (.dK (putKD kvs kk z)))) else .stk
    | _ => .stk)
  | _, _ => .stk) else .stk := id rfl
end Gs

set_option maxHeartbeats 200000
set_option maxHeartbeats 1600000
/-! GPs: sorted(xs), xs a list of pairs of ints. -/
namespace Gs
open PySem PySem.Spec PyProof.Rows L2
def IsPr (K : PySem.W.Frag) (H : Hp) (x : V) (q : Int × Int) : Prop := ∃ t, x = V.ref t ∧ SqT K H t [.int q.1, .int q.2]
def rSortPP (K : PySem.W.Frag) : List V → Hp → VK → Prop := fun vs H Q => ∃ (a : Addr) (xs : List V), vs = [V.ref a] ∧ SqL K H a xs ∧ (∀ x ∈ xs, ∃ q, IsPr K H x q) ∧
  ∀ ys p (k : V → Int × Int), (∀ x ∈ xs, IsPr K H x (k x)) → (∀ x ∈ xs, ∀ q, IsPr K H x q → q = k x) → SrtO.Srtd (ltP k) ys → ys.Perm xs → H p = none → Q (.ref p) (upd H p (.lst ys))
section
variable {X : Cx}
theorem isPr_inj {pins : List (Addr × Obj)} {σ : L2.St} {H : Hp} {s : Shared} (I : Inv X pins σ H s) {x : V} {p q : Int × Int} (h : IsPr X.K H x p) (h' : IsPr X.K H x q) : p = q := by
  obtain ⟨t, rfl, h⟩ := h
  obtain ⟨t', e, h'⟩ := h'
  cases e
  have := I.tuple_inj h h'
  simp only [List.cons.injEq, V.int.injEq, and_true] at this
  exact Prod.ext this.1 this.2
open Classical in
theorem cr_sortPP : CallR X (.builtin "sorted") (rSortPP X.K) := by
  intro pins s σ H vs us Q I r h
  obtain ⟨a, xs, rfl, hs, hx, q⟩ := h
  obtain ⟨its, rv, hl, hz⟩ := I.list hs
  rw [Vals.ref1 r]
  obtain ⟨k, hk⟩ : ∃ k : V → Int × Int, ∀ x ∈ xs, IsPr X.K H x (k x) := ⟨fun x => if h : ∃ q, IsPr X.K H x q then h.choose else (0, 0), fun x m => by
    show IsPr X.K H x (dite _ _ _)
    rw [dif_pos (hx x m)]
    exact (hx x m).choose_spec⟩
  obtain ⟨e1, e2⟩ := refs_back rv fun x m => by
    obtain ⟨t, e, _⟩ := hk x m
    exact ⟨t, e⟩
  refine SrtO.sorted_pairsO (k := fun u => k (backV u)) hl.isList (by rw [← rv.length]; exact hz) (fun v hv => ?_) fun h' d out h1 h2 kp hd hn => ?_
  · obtain ⟨t, rfl⟩ := e2 v hv
    have hm : V.ref t ∈ xs := by rw [e1]; exact List.mem_map_of_mem hv
    obtain ⟨t', e, ht⟩ := hk _ hm
    cases e
    obtain ⟨its2, r2, ⟨o, ho, hc, n, hd⟩, _⟩ := I.tuple ht
    obtain ⟨u1, u2, rfl, ri, rj⟩ := vals2 r2
    obtain ⟨t1, rfl⟩ := ri
    obtain ⟨t2, rfl⟩ := rj
    exact ⟨t, o, t1, t2, n, rfl, ho, hc, hd⟩
  · obtain ⟨n, hn⟩ := hn
    have h3 : ∀ u ∈ out, ∃ a, u = Value.ref a := fun u hu => e2 u (h2.perm.mem_iff.mp hu)
    have hb : (out.map backV).Perm xs := by rw [e1]; exact h2.perm.map backV
    have hsz : (out.map backV).length ≤ sizeLine := by rw [hb.length_eq]; exact hz
    exact ⟨.ref d, upd H d (.lst (out.map backV)), I.laid (t' := s.toks) kp hd ⟨hsz, out, n, vals_back h3, hn⟩, rfl, q _ d k hk (fun x m q hq => isPr_inj I hq (hk x m)) (SrtO.srtd_map h1) hb (I.hok.fresh hd)⟩
end
def prD (q : Int × Int) : D := .tup [.int q.1, .int q.2]
def prsOf : List D → Option (List (Int × Int))
  | [] => some []
  | .tup [.int i, .int j] :: ds => (prsOf ds).map ((i, j) :: ·)
  | _ => none
def lexLe (p q : Int × Int) : Bool := !SrtO.lexB q p
def sortPr (ps : List (Int × Int)) : List (Int × Int) := ps.mergeSort lexLe
theorem prsOf_map : ∀ ps : List (Int × Int), prsOf (ps.map prD) = some ps
  | [] => rfl
  | (i, j) :: ps => by
    rw [List.map_cons, prD, prsOf, prsOf_map ps]
    rfl
theorem prsOf_eq : ∀ {ds : List D} {ps : List (Int × Int)}, prsOf ds = some ps → ds = ps.map prD
  | [], _, e => by cases e; rfl
  | d :: ds, ps, e => by
    unfold prsOf at e
    split at e
    · exact nomatch ‹d :: ds = []›
    · rename_i i j ds' hd
      cases hd
      cases q : prsOf ds with
      | none => rw [q] at e; exact nomatch e
      | some qs =>
        rw [q] at e
        cases e
        rw [prsOf_eq q]
        rfl
    · exact nomatch e
theorem lexLe_iff {p q : Int × Int} : lexLe p q = true ↔ p.1 < q.1 ∨ (p.1 = q.1 ∧ p.2 ≤ q.2) := by
  unfold lexLe
  rw [Bool.not_eq_true', SrtO.lexB_no]
  omega
theorem sortPr_perm (ps : List (Int × Int)) : (sortPr ps).Perm ps := List.mergeSort_perm ps _
theorem sortPr_pw (ps : List (Int × Int)) : (sortPr ps).Pairwise fun p q => lexLe p q = true :=
  List.pairwise_mergeSort (fun a b c h1 h2 => by rw [lexLe_iff] at *; omega) (fun a b => by rw [Bool.or_eq_true, lexLe_iff, lexLe_iff]; omega) ps
theorem pr_uniq {l m : List (Int × Int)} (hp : l.Perm m) (hl : l.Pairwise fun p q => lexLe p q = true) (hm : m.Pairwise fun p q => lexLe p q = true) : l = m :=
  List.Perm.eq_of_pairwise (fun a b _ _ h1 h2 => by
    rw [lexLe_iff] at h1 h2
    exact Prod.ext (by omega) (by omega)) hl hm hp
theorem repL_prs {K : PySem.W.Frag} {ct : String → Addr} {G : Hp} {m : Nat → Option Addr} : ∀ {ps : List (Int × Int)} {vs : List V}, RepL K ct G m (ps.map prD) vs → vs.length = ps.length ∧ ∀ (i : Nat) (x : V), vs[i]? = some x → ∃ q, ps[i]? = some q ∧ IsPr K G x q
  | [], _, h => by cases h; exact ⟨rfl, fun i x e => nomatch e⟩
  | q :: ps, _, h => by
    rw [List.map_cons] at h
    cases h with
    | cons a r =>
      obtain ⟨l, g⟩ := repL_prs r
      refine ⟨by simp [l], fun i x e => ?_⟩
      cases i with
      | zero =>
        cases e
        cases a with
        | tup sq rr =>
          cases rr with
          | cons a1 r1 => cases r1 with
            | cons a2 r2 => cases r2; cases a1; cases a2; exact ⟨q, rfl, _, rfl, sq⟩
      | succ i => exact g i x e
theorem rep_pr {K : PySem.W.Frag} {ct : String → Addr} {G : Hp} {m : Nat → Option Addr} {x : V} {q : Int × Int} (h : IsPr K G x q) : Rep K ct G m (prD q) x := by
  obtain ⟨t, rfl, h⟩ := h
  exact .tup h (.cons (.int _) (.cons (.int _) .nil))
theorem repL_back {K : PySem.W.Frag} {ct : String → Addr} {G : Hp} {m : Nat → Option Addr} {k : V → Int × Int} : ∀ ys : List V, (∀ y ∈ ys, IsPr K G y (k y)) → RepL K ct G m ((ys.map k).map prD) ys
  | [], _ => .nil
  | y :: ys, h => .cons (rep_pr (h y List.mem_cons_self)) (repL_back ys fun z m => h z (List.mem_cons_of_mem _ m))
def ePSort (f : E) : E := fun δ s => (f δ s).bind fun d s1 => match rsv s1 d with
  | .lst ds => (match prsOf ds with
    | some ps => .ok (.lst ((sortPr ps).map prD)) s1
    | none => .stk)
  | _ => .stk
section
variable {X : Cx} {C : Cc}
theorem isPr_mono {K : PySem.W.Frag} {G G' : Hp} {x : V} {q : Int × Int} (e : Same G G') (h : IsPr K G x q) : IsPr K G' x q := by
  obtain ⟨t, rfl, h⟩ := h
  exact ⟨t, rfl, sqt_mono e h⟩
theorem se_psort {a : Expr} {fa : E} {p q3 : Pos} (hg : Gl X "sorted") (hm : X.mg "sorted" = none) (ha : SE X C a fa)
    (na : starEach [a] X.env = (false, eval a X.env) :: starEach [] X.env := by rfl) (hpl : (backTo q3 (starEach [] X.env)).any (·.1) = false := by rfl) :
    SE X C (.Call (.Name "sorted" p) [a] [] q3) (ePSort fa) :=
  pe_weak (pe_callB cr_sortPP hg hm boot_sorted (pa_cons ha pa_nil na) (by decide) (by decide) na hpl) fun σ H Q ⟨δ, v, re, eH, h⟩ => ⟨δ, v, re, eH, on_mono (on_bind h) fun d x v1 l1 s1 r1 h1 => by
    have t := r1.top s1
    cases z : rsv v1.st d with
    | lst ds =>
      rw [z] at h1 t
      cases t with
      | @lst a vs _ pp qq =>
        simp only at h1
        cases y : prsOf ds with
        | none => rw [y] at h1; exact h1.elim
        | some ps =>
          rw [y] at h1
          simp only at h1
          have e := prsOf_eq y
          subst e
          obtain ⟨lv, gv⟩ := repL_prs qq
          have up : ∀ {x : V} {q : Int × Int}, IsPr X.K v1.G x q → IsPr X.K v1.H x q := fun h => isPr_mono s1.sub h
          refine ⟨a, vs, rfl, pp, fun x m => ?_, fun ys c k hk hu hs hp hc => ?_⟩
          · obtain ⟨i, hi⟩ := List.mem_iff_getElem?.mp m
            obtain ⟨q, _, hq⟩ := gv i x hi
            exact ⟨q, up hq⟩
          · obtain ⟨l2, s2⟩ := new_ok (o := .lst ys) s1 hc
            have em : vs.map k = ps := by
              apply List.ext_getElem?
              intro i
              rw [List.getElem?_map]
              cases q : vs[i]? with
              | none =>
                rw [List.getElem?_eq_none_iff] at q
                symm
                simp only [Option.map_none, List.getElem?_eq_none_iff]
                omega
              | some x =>
                obtain ⟨q', h1, h2⟩ := gv i x q
                rw [h1, hu x (List.mem_of_getElem? q) q' (up h2)]
                rfl
            have ek : ys.map k = sortPr ps := pr_uniq (by rw [← em]; exact (hp.map k).trans (sortPr_perm _).symm) (List.pairwise_map.mpr (List.Pairwise.imp (fun {x y} h => by
              have h' : SrtO.lexB (k y) (k x) = false := h
              unfold lexLe
              rw [h']
              rfl) hs)) (sortPr_pw _)
            have gk : ∀ y ∈ ys, IsPr X.K v1.G y (k y) := fun y m => by
              have my := hp.mem_iff.mp m
              obtain ⟨i, hi⟩ := List.mem_iff_getElem?.mp my
              obtain ⟨q, _, hq⟩ := gv i y hi
              rw [hu y my q (up hq)] at hq
              exact hq
            have rl : RepL X.K C.ct v1.G v1.m ((sortPr ps).map prD) ys := by rw [← ek]; exact repL_back ys gk
            exact h1 (.ref c) _ l2 s2 rfl (.lst (.inl (.inl upd_same)) (l2.repl rl))
    | _ => rw [z] at h1; exact h1.elim⟩
end
@[simp] theorem v_ePSort (f : E) (δ : Sl) (s : Sto) : ePSort f δ s = (f δ s).bind fun d s1 => match rsv s1 d with
  | .lst ds => (match prsOf ds with
    | some ps => .ok (.lst ((sortPr ps).map prD)) s1
    | none => .stk)
  | _ => .stk := id rfl
end Gs

set_option maxHeartbeats 200000
/-! GIn: x in l, x not in l, where the items are data of any depth. -/
namespace Gs
open PySem PySem.Spec PyProof.Rows L2
theorem hu_65 {A : Around} {k : Nat} (hr : Room k A) : A.units + 65 < cLine := by have := hr.un; omega
def inPy (x y : D) : Option Bool := match toPy x, toPy y with
  | some p, some (.list ps) => if (SeqAt.shaped p && SeqAt.shaped (.list ps)) = true then some (ps.any fun z => PyData.eqv z p) else none
  | _, _ => none
def gInX : B2 := fun x y => (inPy x y).map .bl
def gNinX : B2 := fun x y => (inPy x y).map fun b => .bl !b
theorem inPy_at {x y : D} {b : Bool} (e : inPy x y = some b) : ∃ p ps, toPy x = some p ∧ toPy y = some (.list ps) ∧ SeqAt.shaped p = true ∧ SeqAt.shaped (.list ps) = true ∧ b = ps.any fun z => PyData.eqv z p := by
  unfold inPy at e
  split at e
  · rename_i p ps h1 h2
    split at e
    · rename_i h
      rw [Bool.and_eq_true] at h
      exact ⟨p, ps, h1, h2, h.1, h.2, (Option.some.inj e).symm⟩
    · exact nomatch e
  · exact nomatch e
section
variable {X : Cx} {ct : String → Addr}
theorem o_inX (hu : X.A.units + 65 < cLine) : OpR X (compareOp .In) (rD X.K ct gInX) := by
  intro pins s σ H x y v u Q I rx ry h
  obtain ⟨v0, dx, dy, d, rfl, sr, e, r1, r2, h⟩ := h
  unfold gInX at e
  cases q : inPy dx dy with
  | none => rw [q] at e; exact nomatch e
  | some b =>
    rw [q] at e
    cases e
    obtain ⟨p, ps, h1, h2, s1, s2, rfl⟩ := inPy_at q
    exact op_inD hu pins s σ _ x y v u Q I rx ry ⟨p, ps, r1.dp sr h1, r2.dp sr h2, s1, s2, h _ v0 .refl sr rfl (.bl _)⟩
theorem o_ninX (hu : X.A.units + 65 < cLine) : OpR X (compareOp .NotIn) (rD X.K ct gNinX) := by
  intro pins s σ H x y v u Q I rx ry h
  obtain ⟨v0, dx, dy, d, rfl, sr, e, r1, r2, h⟩ := h
  unfold gNinX at e
  cases q : inPy dx dy with
  | none => rw [q] at e; exact nomatch e
  | some b =>
    rw [q] at e
    cases e
    obtain ⟨p, ps, h1, h2, s1, s2, rfl⟩ := inPy_at q
    exact op_notInD hu pins s σ _ x y v u Q I rx ry ⟨p, ps, r1.dp sr h1, r2.dp sr h2, s1, s2, h _ v0 .refl sr rfl (.bl _)⟩
end
end Gs

set_option maxHeartbeats 1000000
/-! GZs: zip of two texts. -/
namespace Gs
open PySem PySem.Spec PyProof.Rows L2
def ItzS (x y : Str) : It :=
  ⟨fun i H => i < x.cps.size ∧ i < y.cps.size,
    fun i H v H' => ∃ T c e, v = .ref T ∧ H T = none ∧ H' = upd H T (.tup [.str ⟨#[c]⟩, .str ⟨#[e]⟩]) ∧ x.cps[i]? = some c ∧ y.cps[i]? = some e,
    fun i H => x.cps.size ≤ i ∨ y.cps.size ≤ i⟩
theorem turn_zipS {P : Program} {w : World} {K : PySem.W.Frag} {elts : List Expr} {kk : Nat} {tpos : Pos} {x y : Str} {t1 t2 : Tok} {z TI TO i1 i2 : Addr} (S : ZipSep2 z TI TO i1 i2 [i1] [i2]) :
    Turn P w K (.Tuple elts kk tpos) (ItzS x y) [z, TI, TO, i1, i2] z (fun i h => IsZip h z TI TO .none ∧ IsTupOf2 h TI (.ref i1) (.ref i2) ∧ (∃ x y, IsTupOf2 h TO x y) ∧ h.IsStrIter i1 (strIterType x) x t1 i ∧ h.IsStrIter i2 (strIterType y) y t2 i ∧ i ≤ x.cps.size ∧ i ≤ y.cps.size) where
  mem := by simp
  obj := fun i h st c hc => by
    obtain ⟨hz, hTI, ⟨x, y, hTO⟩, ⟨o1, e1, _, d1⟩, ⟨o2, e2, _, d2⟩, _⟩ := st
    have e' : c = z ∨ c = TI ∨ c = TO ∨ c = i1 ∨ c = i2 := by simpa using hc
    rcases e' with q | q | q | q | q
    · rw [q]; exact ⟨_, hz, fun v q => nomatch q⟩
    · rw [q]; exact ⟨_, hTI, fun v q => nomatch q⟩
    · rw [q]; exact ⟨_, hTO, fun v q => nomatch q⟩
    · rw [q]; exact ⟨o1, e1, fun v q => by rw [d1] at q; cases q⟩
    · rw [q]; exact ⟨o2, e2, fun v q => by rw [d2] at q; cases q⟩
  keep := fun i h h' st k => by
    obtain ⟨hz, hTI, ⟨x, y, hTO⟩, ⟨o1, e1, r1⟩, ⟨o2, e2, r2⟩, l1, l2⟩ := st
    exact ⟨k z (by simp) _ hz, k TI (by simp) _ hTI, ⟨x, y, k TO (by simp) _ hTO⟩, ⟨o1, k i1 (by simp) o1 e1, r1⟩, ⟨o2, k i2 (by simp) o2 e2, r2⟩, l1, l2⟩
  item := by
    intro X hP hw hK hc i pins s σ H E I hf st hg
    subst hP hw hK
    obtain ⟨hz, hTI, ⟨x0, y0, hTO⟩, h1, h2, l1, l2⟩ := st
    obtain ⟨lt1, lt2⟩ := hg
    have hzl : z < s.heap.objs.size := Heap.lt_size hz
    refine wpAny_pyNext_zipD2_item S (Draws.text (A := X.A.in1) (I.ok.hd hc) i1 x t1) (Draws.text (A := X.A.in1) (I.ok.hd hc) i2 y t2) hz hTI hTO h1 h2 lt1 lt2 fun w1 w2 h' tk q1 q2 z' TO' st1 st2 hT hsz hk => ?_
    obtain ⟨c1, u1, g1, rfl⟩ := q1
    obtain ⟨c2, u2, g2, rfl⟩ := q2
    refine ⟨_, rfl, wpAny_letOwnedTupleGo_zip (s := { s with heap := h', toks := tk }) z' fun h'' z'' sb => ?_⟩
    have hT2 : h''.get? s.heap.objs.size = some { cls := .type "tuple", data := .seq #[.str ⟨#[c1]⟩ u1, .str ⟨#[c2]⟩ u2] } := (sb.2 _ (Nat.ne_of_gt hzl)).trans hT
    have new : ObjOk X.prog X.w (upd H s.heap.objs.size (.tup [.str ⟨#[c1]⟩, .str ⟨#[c2]⟩])) h'' s.heap.objs.size (.tup [.str ⟨#[c1]⟩, .str ⟨#[c2]⟩]) :=
      ⟨by show 2 ≤ sizeLine; decide, [.str ⟨#[c1]⟩ u1, .str ⟨#[c2]⟩ u2], .cons ⟨u1, rfl⟩ (.cons ⟨u2, rfl⟩ .nil), ⟨_, hT2, rfl, _, rfl⟩⟩
    have I1 : Inv X pins σ (upd H s.heap.objs.size (.tup [.str ⟨#[c1]⟩, .str ⟨#[c2]⟩])) { s with heap := h'', toks := tk } :=
      I.turnedNew (t' := tk) (ch := [z, TI, TO, i1, i2]) (fun c o hb q => (sb.2 c (fun q' => hb (by simp [q']))).trans (hk c o (fun q' => hb (by simp [q'])) (fun q' => hb (by simp [q'])) (fun q' => hb (by simp [q'])) (fun q' => hb (by simp [q'])) q)) hf (Nat.le_refl _) new
    refine ⟨.ref s.heap.objs.size, _, I1, rfl, ⟨_, c1, c2, rfl, I.hok.fresh (Nat.le_refl _), rfl, g1, g2⟩, ⟨z'', ?_, ⟨Value.str ⟨#[c1]⟩ u1, Value.str ⟨#[c2]⟩ u2, ?_⟩, ?_, ?_, lt1, lt2⟩, fun c hcm => ?_⟩
    · exact (sb.2 _ S.TIz).trans (hk _ _ S.TIz S.TITO S.TIi1 S.TIi2 hTI)
    · exact (sb.2 _ S.TOz).trans TO'
    · obtain ⟨o, ho, r⟩ := st1
      exact ⟨o, (sb.2 _ S.zi1.symm).trans ho, r⟩
    · obtain ⟨o, ho, r⟩ := st2
      exact ⟨o, (sb.2 _ S.zi2.symm).trans ho, r⟩
    · have hlt : c < s.heap.objs.size := by
        have e' : c = z ∨ c = TI ∨ c = TO ∨ c = i1 ∨ c = i2 := by simpa using hcm
        rcases e' with q | q | q | q | q
        · rw [q]; exact hzl
        · rw [q]; exact Heap.lt_size hTI
        · rw [q]; exact Heap.lt_size hTO
        · rw [q]; obtain ⟨_, e1, _⟩ := h1; exact Heap.lt_size e1
        · rw [q]; obtain ⟨_, e2, _⟩ := h2; exact Heap.lt_size e2
      rw [upd_ne (Nat.ne_of_lt hlt)]
      exact (hf c hcm).1
  done := by
    intro X hP hw hK hc i pins s σ H E I hf st hg
    subst hP hw hK
    obtain ⟨hz, hTI, ⟨x0, y0, hTO⟩, h1, h2, l1, l2⟩ := st
    refine wpAny_pyNext_zipD2_end S (Draws.text (A := X.A.in1) (I.ok.hd hc) i1 x t1) (Draws.text (A := X.A.in1) (I.ok.hd hc) i2 y t2) hz hTI hTO h1 h2 l1 l2 (by rcases hg with g | g <;> omega) fun h' tk hk => ⟨rfl, I.turnedL (t' := tk) (ch := [z, TI, TO, i1, i2]) (fun c o hb q =>
      hk c o (fun q' => hb (by simp [q'])) (fun q' => hb (by simp [q'])) (fun q' => hb (by simp [q'])) (fun q' => hb (by simp [q'])) q) hf⟩
  self := fun A i s Q E st h => wpAny_pyIter_zip st.1 h
def iZipSx (ta : TA) : TI := fun σ H R => ta σ H fun vs H1 => ∃ x y, vs = [.str x, .str y] ∧ R (ItzS x y) H1
theorem pi_zipS {X : Cx} {e e2 : Expr} {ta : TA} {p pos tpos : Pos} {elts : List Expr} {kk : Nat} (hg : Gl X "zip") (hm : X.mg "zip" = none) (ha : PA X [e, e2] ta)
    (hs : starEach [e, e2] X.env = (false, eval e X.env) :: starEach [e2] X.env := by rfl) (hpl : (backTo pos (starEach [e2] X.env)).any (·.1) = false := by rfl) :
    PI X (.Tuple elts kk tpos) (.Call (.Name "zip" p) [e, e2] [] pos) (iZipSx ta) := by
  refine ⟨fun pins s σ H R I h => ?_⟩
  refine Call_ (ld_blt I hg hm PyProof.Rows.boot_zip (PyProof.Rows.callWith_type1 (thn (ha.run pos pins s σ H _ I h) fun us s1 ⟨vs, H1, I1, r1, q1⟩ => ?_) hs hpl))
  obtain ⟨x, y, ex, q⟩ := q1
  subst ex
  cases r1 with
  | cons r rr =>
    cases rr with
    | cons r' rr =>
      cases rr
      obtain ⟨t1, rfl⟩ := r
      obtain ⟨t2, rfl⟩ := r'
      refine zip_begins2 (begins_text x t1) (begins_text y t2) trivial trivial fun h' hz hTI hTO g1 g2 hsz hk => wpAny_pyIter_zip hz ?_
      have I2 : Inv X pins σ H1 { s1 with heap := h' } := I1.kept (t' := s1.toks) hk
      have S : ZipSep2 (s1.heap.objs.size + 4) (s1.heap.objs.size + 2) (s1.heap.objs.size + 3) s1.heap.objs.size (s1.heap.objs.size + 1) [s1.heap.objs.size] [s1.heap.objs.size + 1] := by
        constructor <;> simp <;> first | omega | (intro z; omega) | skip
      refine ⟨s1.heap.objs.size + 4, [s1.heap.objs.size + 4, s1.heap.objs.size + 2, s1.heap.objs.size + 3, s1.heap.objs.size, s1.heap.objs.size + 1], _, _, H1, rfl, I2, turn_zipS (t1 := t1) (t2 := t2) S, ⟨hz, hTI, ⟨_, _, hTO⟩, ⟨_, g1, rfl, rfl⟩, ⟨_, g2, rfl, rfl⟩, Nat.zero_le _, Nat.zero_le _⟩, fun c hcm => ?_, q⟩
      have e' : c = s1.heap.objs.size + 4 ∨ c = s1.heap.objs.size + 2 ∨ c = s1.heap.objs.size + 3 ∨ c = s1.heap.objs.size ∨ c = s1.heap.objs.size + 1 := by simpa using hcm
      have hle : s1.heap.objs.size ≤ c := by
        rcases e' with z | z | z | z | z
        · rw [z]; exact Nat.le_add_right _ _
        · rw [z]; exact Nat.le_add_right _ _
        · rw [z]; exact Nat.le_add_right _ _
        · rw [z]; exact Nat.le_refl _
        · rw [z]; exact Nat.le_add_right _ _
      exact I1.fpOk hle (I1.hok.fresh hle)
section
variable {K : PySem.W.Frag} {ct : String → Addr} {v : Vw}
theorem signs_at {x : Str} {i : Nat} {d : D} (h : (signs x)[i]? = some d) : ∃ c, x.cps[i]? = some c ∧ d = .str ⟨#[c]⟩ := by
  unfold signs at h
  rw [List.getElem?_map, Array.getElem?_toList] at h
  cases q : x.cps[i]? with
  | none => rw [q] at h; exact nomatch h
  | some c => rw [q] at h; exact ⟨c, rfl, (Option.some.inj h).symm⟩
theorem signs_len (x : Str) : (signs x).length = x.cps.size := by unfold signs; simp
theorem itOk_zipS {x y : Str} : ItOk K ct (ItzS x y) v (zipD (signs x) (signs y)) where
  go := fun i w l s hi => by
    have hi' : i < min (signs x).length (signs y).length := by simpa [zipD] using hi
    rw [signs_len, signs_len] at hi'
    exact ⟨by omega, by omega⟩
  stop := fun i w l s hi => by
    have hi' : min (signs x).length (signs y).length ≤ i := by simpa [zipD] using hi
    rw [signs_len, signs_len] at hi'
    show x.cps.size ≤ i ∨ y.cps.size ≤ i
    omega
  yld := fun i w z H' l s hi y' => by
    obtain ⟨dx, dy, e1, e2, e3⟩ := zipD_get hi
    obtain ⟨c, q1, rfl⟩ := signs_at e1
    obtain ⟨e, q2, rfl⟩ := signs_at e2
    obtain ⟨T, c', e', rfl, hT, rfl, y1, y2⟩ := y'
    rw [q1] at y1
    rw [q2] at y2
    cases y1
    cases y2
    obtain ⟨l2, s2⟩ := new_ok (o := .tup [.str ⟨#[c]⟩, .str ⟨#[e]⟩]) s hT
    exact ⟨.tup [.str ⟨#[c]⟩, .str ⟨#[e]⟩], w.new T (.tup [.str ⟨#[c]⟩, .str ⟨#[e]⟩]), e3, rfl, l2, s2, rfl, .tup (SqT.of upd_same) (.cons (.str _) (.cons (.str _) .nil))⟩
end
def iZipS (a : As) : As := fun δ s => (a δ s).bind fun ds s1 => match ds with
  | [.str x, .str y] => .ok (zipD (signs x) (signs y)) s1
  | _ => .stk
section
variable {X : Cx} {C : Cc}
theorem si_zipS {e e2 : Expr} {f : As} {p pos tpos : Pos} {elts : List Expr} {kk : Nat} (hg : Gl X "zip") (hm : X.mg "zip" = none) (ha : SA X C [e, e2] f)
    (hs : starEach [e, e2] X.env = (false, eval e X.env) :: starEach [e2] X.env := by rfl) (hpl : (backTo pos (starEach [e2] X.env)).any (·.1) = false := by rfl) :
    SI X C (.Tuple elts kk tpos) (.Call (.Name "zip" p) [e, e2] [] pos) (iZipS f) :=
  pi_weak (pi_zipS hg hm ha hs hpl) fun σ H R ⟨δ, v, re, eH, h⟩ => ⟨δ, v, re, eH, on_mono (on_bind h) fun ds vs v1 l1 s1 r1 h1 => by
    split at h1
    · cases r1 with
      | cons r2 r3 =>
        cases r3 with
        | cons r3 r4 =>
          cases r4
          cases r2
          cases r3
          exact ⟨_, _, rfl, on_self s1 h1 itOk_zipS⟩
    · exact h1.elim⟩
end
@[simp] theorem v_iZipS (a : As) (δ : Sl) (s : Sto) : iZipS a δ s = (a δ s).bind fun ds s1 => match ds with | [.str x, .str y] => .ok (zipD (signs x) (signs y)) s1 | _ => .stk := id rfl
end Gs

set_option maxHeartbeats 200000
/-! MCh: how many sets: plain mathematics. -/
namespace MCh
def ch : Nat → Nat → Nat
  | _, 0 => 1
  | 0, _ + 1 => 0
  | n + 1, k + 1 => ch n k + ch n (k + 1)
def fac : Nat → Nat
  | 0 => 1
  | n + 1 => fac n * (n + 1)
/-- n (n - 1) .., k of them -/
def fall (n : Nat) : Nat → Nat
  | 0 => 1
  | k + 1 => fall n k * (n - k)
theorem ch_0 (n : Nat) : ch n 0 = 1 := by cases n <;> rfl
theorem ch_small : ∀ {n k : Nat}, n < k → ch n k = 0
  | 0, k + 1, _ => rfl
  | n + 1, k + 1, h => by
    show ch n k + ch n (k + 1) = 0
    rw [ch_small (by omega), ch_small (by omega)]
theorem ch_self : ∀ n : Nat, ch n n = 1
  | 0 => rfl
  | n + 1 => by
    show ch n n + ch n (n + 1) = 1
    rw [ch_self n, ch_small (by omega)]
theorem ch_abs : ∀ n k : Nat, ch n (k + 1) * (k + 1) = ch n k * (n - k)
  | 0, 0 => rfl
  | 0, k + 1 => by
    show 0 * (k + 2) = 0 * (0 - (k + 1))
    simp
  | n + 1, 0 => by
    have ih : ch n 1 * 1 = ch n 0 * n := ch_abs n 0
    rw [ch_0] at ih
    show (ch n 0 + ch n 1) * 1 = ch (n + 1) 0 * (n + 1)
    rw [ch_0, ch_0]
    omega
  | n + 1, k + 1 => by
    have i1 := ch_abs n k
    have i2 := ch_abs n (k + 1)
    show (ch n (k + 1) + ch n (k + 2)) * (k + 2) = (ch n k + ch n (k + 1)) * (n + 1 - (k + 1))
    by_cases h : k + 1 ≤ n
    · obtain ⟨r, rfl⟩ : ∃ r, n = k + 1 + r := ⟨n - (k + 1), by omega⟩
      have e1 : k + 1 + r - k = r + 1 := by omega
      have e2 : k + 1 + r - (k + 1) = r := by omega
      have e3 : k + 1 + r + 1 - (k + 1) = r + 1 := by omega
      rw [e1] at i1
      rw [e2] at i2
      rw [e3, Nat.add_mul, Nat.add_mul, i2, ← i1]
      rw [← Nat.mul_add, ← Nat.mul_add]
      congr 1
      omega
    · have z1 : ch n (k + 1) = 0 := ch_small (by omega)
      have z2 : ch n (k + 2) = 0 := ch_small (by omega)
      rw [z1, z2]
      by_cases h2 : k ≤ n
      · have e : k = n := by omega
        subst e
        simp
      · rw [ch_small (by omega : n < k)]
        simp
theorem ch_fac (n : Nat) : ∀ k : Nat, ch n k * fac k = fall n k
  | 0 => by rw [ch_0]; rfl
  | k + 1 => by
    show ch n (k + 1) * (fac k * (k + 1)) = fall n k * (n - k)
    rw [← ch_fac n k, Nat.mul_comm (fac k), ← Nat.mul_assoc, ch_abs, Nat.mul_assoc, Nat.mul_comm (n - k), ← Nat.mul_assoc]
theorem ch_symm : ∀ (s a b : Nat), a + b = s → ch s a = ch s b
  | s, 0, b, h => by
    have e : b = s := by omega
    subst e
    rw [ch_0, ch_self]
  | s, a + 1, 0, h => by
    have e : a + 1 = s := by omega
    subst e
    rw [ch_0, ch_self]
  | 0, a + 1, b + 1, h => by omega
  | s + 1, a + 1, b + 1, h => by
    show ch s a + ch s (a + 1) = ch s b + ch s (b + 1)
    rw [ch_symm s a (b + 1) (by omega), ch_symm s (a + 1) b (by omega), Nat.add_comm]
theorem fac_pos : ∀ n : Nat, 0 < fac n
  | 0 => Nat.one_pos
  | n + 1 => Nat.mul_pos (fac_pos n) (Nat.succ_pos n)
theorem fall_le (n : Nat) : ∀ k : Nat, fall n k ≤ n ^ k
  | 0 => Nat.le_refl _
  | k + 1 => by
    show fall n k * (n - k) ≤ n ^ (k + 1)
    rw [Nat.pow_succ]
    exact Nat.mul_le_mul (fall_le n k) (Nat.sub_le _ _)
theorem ch_le (n k : Nat) : ch n k ≤ n ^ k := by
  have h := ch_fac n k
  have h2 := fall_le n k
  have h3 := Nat.le_mul_of_pos_right (ch n k) (fac_pos k)
  omega
theorem ch_lt {n k a : Nat} (h : n < 2 ^ a) : ch n k < 2 ^ (a * k + 1) := by
  have h1 := ch_le n k
  have h2 : n ^ k ≤ (2 ^ a) ^ k := Nat.pow_le_pow_left (Nat.le_of_lt h) k
  rw [← Nat.pow_mul] at h2
  have h3 : 2 ^ (a * k) < 2 ^ (a * k + 1) := Nat.pow_lt_pow_right (by omega) (by omega)
  omega
theorem ch_div (n k : Nat) : ch n k * (n - k) / (k + 1) = ch n (k + 1) := by
  rw [← ch_abs, Nat.mul_div_cancel _ (Nat.succ_pos k)]
theorem fall_zero {n : Nat} : ∀ {k : Nat}, n < k → fall n k = 0
  | 0, h => by omega
  | k + 1, h => by
    show fall n k * (n - k) = 0
    by_cases h2 : n < k
    · rw [fall_zero h2, Nat.zero_mul]
    · rw [show n - k = 0 by omega, Nat.mul_zero]
theorem ch_absorb (n k : Nat) : ch (n + 1) (k + 1) * (k + 1) = (n + 1) * ch n k := by
  have h := ch_abs n k
  show (ch n k + ch n (k + 1)) * (k + 1) = _
  rw [Nat.add_mul, h]
  by_cases h2 : k ≤ n
  · rw [← Nat.mul_add, Nat.mul_comm (n + 1)]
    congr 1
    omega
  · rw [ch_small (by omega : n < k)]
    simp
/-- how many bags -/
def bg (n m : Nat) : Nat := ch (n + m - 1) m
theorem bg_step (n k : Nat) : bg n (k + 1) * (k + 1) = bg n k * (n + k) := by
  unfold bg
  by_cases h : n + k = 0
  · have h1 : n = 0 := by omega
    have h2 : k = 0 := by omega
    subst h1 h2
    rfl
  · obtain ⟨N, hN⟩ : ∃ N, n + k = N + 1 := ⟨n + k - 1, by omega⟩
    rw [show n + (k + 1) - 1 = N + 1 by omega, show n + k - 1 = N by omega, ch_absorb, hN, Nat.mul_comm]
theorem bg_0 (n : Nat) : bg n 0 = 1 := ch_0 _
theorem bg_div (n k : Nat) : bg n k * (n + k) / (k + 1) = bg n (k + 1) := by
  rw [← bg_step, Nat.mul_div_cancel _ (Nat.succ_pos k)]
def gd (xs : List Nat) (k : Nat) : Nat := xs.getD k 0
/-- the rank of a set, of its first k numbers -/
def rkF (xs : List Nat) : Nat → Nat
  | 0 => 0
  | k + 1 => rkF xs k + ch (gd xs k) (k + 1)
def rk (xs : List Nat) : Nat := rkF xs xs.length
theorem gd_mem {xs : List Nat} {k : Nat} (h : k < xs.length) : gd xs k ∈ xs := by
  simp [gd, List.getD, h]
/-- a product of numbers -/
def pr (f : Nat → Int) : Nat → Int
  | 0 => 1
  | k + 1 => pr f k * f k
theorem pr_lt {f : Nat → Int} {a : Nat} : ∀ k, (∀ j, j < k → (f j).natAbs < 2 ^ a) → (pr f k).natAbs < 2 ^ (a * k + 1)
  | 0, _ => by
    show (1 : Int).natAbs < 2 ^ (a * 0 + 1)
    simp
  | k + 1, h => by
    show (pr f k * f k).natAbs < _
    rw [Int.natAbs_mul, show a * (k + 1) + 1 = (a * k + 1) + a by rw [Nat.mul_succ]; omega, Nat.pow_add]
    exact Nat.mul_lt_mul'' (pr_lt k fun j hj => h j (by omega)) (h k (by omega))
theorem pr_fall (n : Nat) : ∀ k, pr (fun i => (n : Int) - (i : Nat)) k = (fall n k : Nat)
  | 0 => rfl
  | k + 1 => by
    show pr (fun i => (n : Int) - (i : Nat)) k * ((n : Int) - (k : Nat)) = ((fall n k * (n - k) : Nat) : Int)
    rw [pr_fall n k]
    by_cases h : k ≤ n
    · rw [Int.natCast_mul, Int.ofNat_sub h]
    · rw [fall_zero (by omega)]
      simp
theorem pr_rise (n : Nat) : ∀ k, pr (fun i => (n : Int) + (i : Nat)) k = ((bg n k * fac k : Nat) : Int)
  | 0 => by
    rw [bg_0]
    rfl
  | k + 1 => by
    show pr (fun i => (n : Int) + (i : Nat)) k * ((n : Int) + (k : Nat)) = ((bg n (k + 1) * (fac k * (k + 1)) : Nat) : Int)
    rw [pr_rise n k, Nat.mul_comm (fac k), ← Nat.mul_assoc, bg_step, ← Int.natCast_add, ← Int.natCast_mul, Nat.mul_assoc, Nat.mul_comm (fac k), Nat.mul_assoc]
end MCh

namespace Law
open PySem L2 Gs
/-! the text by places -/
def topS (i : Nat) : Stmt := PySem.Challenge.pw_countgen_k25_lists_in_order_compared.main.body.getD i (.Pass ⟨0, 0, 0, 0⟩)
abbrev s_l_whole : Stmt := topS 25
abbrev N_l_whole : List Str := ["_law_found"]
abbrev P_l_whole : List Str := ["_law_found"]
theorem sc_l_whole : FnScope N_l_whole P_l_whole (defScope s_l_whole) := ⟨rfl, rfl, rfl, by decide +kernel, rfl, by decide +kernel, by decide +kernel⟩
abbrev s_place_of : Stmt := topS 8
abbrev N_place_of : List Str := ["branches", "mark", "k", "branch"]
abbrev P_place_of : List Str := ["branches", "mark"]
theorem sc_place_of : FnScope N_place_of P_place_of (defScope s_place_of) := ⟨rfl, rfl, rfl, by decide +kernel, rfl, by decide +kernel, by decide +kernel⟩
abbrev s_all_alike : Stmt := topS 17
abbrev N_all_alike : List Str := ["times", "things", "thing"]
abbrev P_all_alike : List Str := ["times", "things"]
theorem sc_all_alike : FnScope N_all_alike P_all_alike (defScope s_all_alike) := ⟨rfl, rfl, rfl, by decide +kernel, rfl, by decide +kernel, by decide +kernel⟩
abbrev s_shape_of : Stmt := topS 5
abbrev N_shape_of : List Str := ["book", "name", "other", "shape"]
abbrev P_shape_of : List Str := ["book", "name"]
theorem sc_shape_of : FnScope N_shape_of P_shape_of (defScope s_shape_of) := ⟨rfl, rfl, rfl, by decide +kernel, rfl, by decide +kernel, by decide +kernel⟩
abbrev s_measured : Stmt := topS 9
abbrev N_measured : List Str := ["book", "shape", "value", "part", "thing"]
abbrev P_measured : List Str := ["book", "shape", "value"]
theorem sc_measured : FnScope N_measured P_measured (defScope s_measured) := ⟨rfl, rfl, rfl, by decide +kernel, rfl, by decide +kernel, by decide +kernel⟩
abbrev s_heaps : Stmt := topS 14
abbrev N_heaps : List Str := ["book", "part", "things", "found", "thing"]
abbrev P_heaps : List Str := ["book", "part", "things"]
theorem sc_heaps : FnScope N_heaps P_heaps (defScope s_heaps) := ⟨rfl, rfl, rfl, by decide +kernel, rfl, by decide +kernel, by decide +kernel⟩
abbrev s_sign_of : Stmt := topS 7
abbrev N_sign_of : List Str := ["number"]
abbrev P_sign_of : List Str := ["number"]
theorem sc_sign_of : FnScope N_sign_of P_sign_of (defScope s_sign_of) := ⟨rfl, rfl, rfl, by decide +kernel, rfl, by decide +kernel, by decide +kernel⟩
abbrev s_order_of_texts : Stmt := topS 11
abbrev N_order_of_texts : List Str := ["signs", "one", "other", "here", "there"]
abbrev P_order_of_texts : List Str := ["signs", "one", "other"]
theorem sc_order_of_texts : FnScope N_order_of_texts P_order_of_texts (defScope s_order_of_texts) := ⟨rfl, rfl, rfl, by decide +kernel, rfl, by decide +kernel, by decide +kernel⟩
abbrev s_order_of_picks : Stmt := topS 13
abbrev N_order_of_picks : List Str := ["book", "branches", "one", "other", "near", "far"]
abbrev P_order_of_picks : List Str := ["book", "branches", "one", "other"]
theorem sc_order_of_picks : FnScope N_order_of_picks P_order_of_picks (defScope s_order_of_picks) := ⟨rfl, rfl, rfl, by decide +kernel, rfl, by decide +kernel, by decide +kernel⟩
abbrev s_order_of_rows : Stmt := topS 12
abbrev N_order_of_rows : List Str := ["book", "parts", "one", "other", "k", "found"]
abbrev P_order_of_rows : List Str := ["book", "parts", "one", "other"]
theorem sc_order_of_rows : FnScope N_order_of_rows P_order_of_rows (defScope s_order_of_rows) := ⟨rfl, rfl, rfl, by decide +kernel, rfl, by decide +kernel, by decide +kernel⟩
abbrev s_order_of_heaps : Stmt := topS 15
abbrev N_order_of_heaps : List Str := ["book", "part", "one", "other", "near", "far", "size", "here", "there", "found", "thing"]
abbrev P_order_of_heaps : List Str := ["book", "part", "one", "other"]
theorem sc_order_of_heaps : FnScope N_order_of_heaps P_order_of_heaps (defScope s_order_of_heaps) := ⟨rfl, rfl, rfl, by decide +kernel, rfl, by decide +kernel, by decide +kernel⟩
abbrev s_order : Stmt := topS 10
abbrev N_order : List Str := ["book", "shape", "one", "other", "near", "far", "thing"]
abbrev P_order : List Str := ["book", "shape", "one", "other"]
theorem sc_order : FnScope N_order P_order (defScope s_order) := ⟨rfl, rfl, rfl, by decide +kernel, rfl, by decide +kernel, by decide +kernel⟩
abbrev s_rises : Stmt := topS 16
abbrev N_rises : List Str := ["book", "part", "things", "most", "k"]
abbrev P_rises : List Str := ["book", "part", "things", "most"]
theorem sc_rises : FnScope N_rises P_rises (defScope s_rises) := ⟨rfl, rfl, rfl, by decide +kernel, rfl, by decide +kernel, by decide +kernel⟩
abbrev s_fits_parts : Stmt := topS 20
abbrev N_fits_parts : List Str := ["book", "parts", "things", "part", "thing"]
abbrev P_fits_parts : List Str := ["book", "parts", "things"]
theorem sc_fits_parts : FnScope N_fits_parts P_fits_parts (defScope s_fits_parts) := ⟨rfl, rfl, rfl, by decide +kernel, rfl, by decide +kernel, by decide +kernel⟩
abbrev s_fits_list : Stmt := topS 22
abbrev N_fits_list : List Str := ["book", "shape", "things", "thing"]
abbrev P_fits_list : List Str := ["book", "shape", "things"]
theorem sc_fits_list : FnScope N_fits_list P_fits_list (defScope s_fits_list) := ⟨rfl, rfl, rfl, by decide +kernel, rfl, by decide +kernel, by decide +kernel⟩
abbrev s_fits_branch : Stmt := topS 21
abbrev N_fits_branch : List Str := ["book", "branches", "pair", "at"]
abbrev P_fits_branch : List Str := ["book", "branches", "pair"]
theorem sc_fits_branch : FnScope N_fits_branch P_fits_branch (defScope s_fits_branch) := ⟨rfl, rfl, rfl, by decide +kernel, rfl, by decide +kernel, by decide +kernel⟩
abbrev s_fits : Stmt := topS 19
abbrev N_fits : List Str := ["book", "shape", "value", "sign"]
abbrev P_fits : List Str := ["book", "shape", "value"]
theorem sc_fits : FnScope N_fits P_fits (defScope s_fits) := ⟨rfl, rfl, rfl, by decide +kernel, rfl, by decide +kernel, by decide +kernel⟩
abbrev s_compared : Stmt := topS 23
abbrev N_compared : List Str := ["book", "shape", "one", "other", "value"]
abbrev P_compared : List Str := ["book", "shape", "one", "other"]
theorem sc_compared : FnScope N_compared P_compared (defScope s_compared) := ⟨rfl, rfl, rfl, by decide +kernel, rfl, by decide +kernel, by decide +kernel⟩
abbrev s_l_asked : Stmt := topS 33
abbrev N_l_asked : List Str := ["_law_shape", "_law_one", "_law_other", "_law_due_here", "_law_handed", "_law_found"]
abbrev P_l_asked : List Str := ["_law_shape", "_law_one", "_law_other", "_law_due_here"]
theorem sc_l_asked : FnScope N_l_asked P_l_asked (defScope s_l_asked) := ⟨rfl, rfl, rfl, by decide +kernel, rfl, by decide +kernel, by decide +kernel⟩
abbrev s_l_cell_at : Stmt := topS 26
abbrev N_l_cell_at : List Str := ["_law_script", "_law_k"]
abbrev P_l_cell_at : List Str := ["_law_script", "_law_k"]
theorem sc_l_cell_at : FnScope N_l_cell_at P_l_cell_at (defScope s_l_cell_at) := ⟨rfl, rfl, rfl, by decide +kernel, rfl, by decide +kernel, by decide +kernel⟩
abbrev s_l_due : Stmt := topS 32
abbrev N_l_due : List Str := ["_law_one", "_law_other", "_law_near", "_law_far", "_law_size", "_law_here", "_law_there", "_law_x", "_law_y", "_law_place", "_law_spot_here"]
abbrev P_l_due : List Str := ["_law_one", "_law_other"]
theorem sc_l_due : FnScope N_l_due P_l_due (defScope s_l_due) := ⟨rfl, rfl, rfl, by decide +kernel, rfl, by decide +kernel, by decide +kernel⟩
abbrev s_l_once : Stmt := topS 31
abbrev N_l_once : List Str := ["_law_spots_here", "_law_found", "_law_spot_here"]
abbrev P_l_once : List Str := ["_law_spots_here"]
theorem sc_l_once : FnScope N_l_once P_l_once (defScope s_l_once) := ⟨rfl, rfl, rfl, by decide +kernel, rfl, by decide +kernel, by decide +kernel⟩
abbrev s_l_part : Stmt := topS 27
abbrev N_l_part : List Str := ["_law_script", "_law_cell", "_law_low", "_law_signs"]
abbrev P_l_part : List Str := ["_law_script"]
theorem sc_l_part : FnScope N_l_part P_l_part (defScope s_l_part) := ⟨rfl, rfl, rfl, by decide +kernel, rfl, by decide +kernel, by decide +kernel⟩
abbrev s_l_spot : Stmt := topS 28
abbrev N_l_spot : List Str := ["_law_part_here", "_law_size", "_law_cell"]
abbrev P_l_spot : List Str := ["_law_part_here", "_law_size", "_law_cell"]
theorem sc_l_spot : FnScope N_l_spot P_l_spot (defScope s_l_spot) := ⟨rfl, rfl, rfl, by decide +kernel, rfl, by decide +kernel, by decide +kernel⟩
abbrev s_l_spots : Stmt := topS 30
abbrev N_l_spots : List Str := ["_law_part_here", "_law_script", "_law_one", "_law_other", "_law_cell", "_law_spot_here", "_law_more", "_law_k"]
abbrev P_l_spots : List Str := ["_law_part_here", "_law_script"]
theorem sc_l_spots : FnScope N_l_spots P_l_spots (defScope s_l_spots) := ⟨rfl, rfl, rfl, by decide +kernel, rfl, by decide +kernel, by decide +kernel⟩
abbrev s_l_thing : Stmt := topS 29
abbrev N_l_thing : List Str := ["_law_part_here", "_law_spot_here", "_law_size", "_law_place", "_law_found", "_law_k"]
abbrev P_l_thing : List Str := ["_law_part_here", "_law_spot_here"]
theorem sc_l_thing : FnScope N_l_thing P_l_thing (defScope s_l_thing) := ⟨rfl, rfl, rfl, by decide +kernel, rfl, by decide +kernel, by decide +kernel⟩
abbrev s_law : Stmt := topS 34
abbrev N_law : List Str := ["_law_script", "_law_part_here", "_law_one", "_law_other", "_law_shape", "_law_due_here", "_law_near", "_law_far", "_law_spot_here"]
abbrev P_law : List Str := ["_law_script"]
theorem sc_law : FnScope N_law P_law (defScope s_law) := ⟨rfl, rfl, rfl, by decide +kernel, rfl, by decide +kernel, by decide +kernel⟩
def clsS (i j : Nat) : Stmt := match topS i with
  | .ClassDef _ _ _ body _ _ _ _ _ _ _ => body.getD j (.Pass ⟨0, 0, 0, 0⟩)
  | s => s
abbrev s_NoValue___init__ : Stmt := clsS 3 0
abbrev PI_NoValue : List Str := ["self", "words", "value"]
theorem sc_NoValue___init__ : FnScope PI_NoValue PI_NoValue (defScope s_NoValue___init__) := ⟨rfl, rfl, rfl, by decide +kernel, rfl, by decide +kernel, by decide +kernel⟩
/-! what they say of data -/
noncomputable def S_l_whole : List D → Sto → R D := runG 1 (
    sRet (eAn (eUn (gIsi "int") (eV 0)) (eNt (eUn (gIsi "bool") (eV 0)))))
noncomputable def L_place_of_0 : S := sIf (tV (eBin gEq (eBin gIx (eV 3) (eC (.int 0))) (eV 1))) (sRet (eV 2)) (sNx)
noncomputable def S_place_of : List D → Sto → R D := runG 4 (
    sSeq (sFor (iEnumX (aCons (eV 0) (aNil))) (.tp [.nm 2, .nm 3]) (L_place_of_0))
    (sRet (eUn gNeg (eC (.int 1)))))
noncomputable def S_all_alike : List D → Sto → R D := runG 3 (
    sRet (eAn (eBin gEq (eFn gLen (aCons (eV 1) (aNil))) (eV 0)) (eFn gAll (aCons (eFz (fLc (iSeq (eV 1)) [2] (.nm 2) (tTrue) (eBin gEq (eV 2) (eBin gIx (eV 1) (eC (.int 0)))))) (aNil)))))
noncomputable def L_shape_of_0 : S := sIf (tV (eBin gEq (eV 2) (eV 1))) (sRet (eV 3)) (sNx)
noncomputable def S_shape_of : List D → Sto → R D := runG 4 (
    sSeq (sFor (iSeq (eV 0)) (.tp [.nm 2, .nm 3]) (L_shape_of_0))
    (sRaise "NoName"))
noncomputable def U_measured (c_measured : List D → Sto → R D) : List D → Sto → R D := runG 5 (
    sSeq (sIf (tV (eBin gEq (eBin gIx (eV 1) (eC (.int 0))) (eC (.str (Str.ofString "whole"))))) (sRet (eBits (eBin gSub (eV 2) (eBin gIx (eV 1) (eC (.int 1)))))) (sNx))
    (sSeq (sIf (tV (eBin gEq (eBin gIx (eV 1) (eC (.int 0))) (eC (.str (Str.ofString "text"))))) (sRet (eFn gLen (aCons (eV 2) (aNil)))) (sNx))
    (sSeq (sIf (tV (eBin gEq (eBin gIx (eV 1) (eC (.int 0))) (eC (.str (Str.ofString "row"))))) (sRet (eFn gSumA (aCons (eFz (fLc (iZipD (aCons (eBin gIx (eV 1) (eC (.int 1))) (aCons (eV 2) (aNil)))) [3, 4] (.tp [.nm 3, .nm 4]) (tTrue) (eCall c_measured (aCons (eV 0) (aCons (eV 3) (aCons (eV 4) (aNil))))))) (aNil)))) (sNx))
    (sSeq (sIf (tV (eBin gEq (eBin gIx (eV 1) (eC (.int 0))) (eC (.str (Str.ofString "pick"))))) (sRet (eCall c_measured (aCons (eV 0) (aCons (eBin gIx (eBin gIx (eBin gIx (eV 1) (eC (.int 1))) (eCall S_place_of (aCons (eBin gIx (eV 1) (eC (.int 1))) (aCons (eBin gIx (eV 2) (eC (.int 0))) (aNil))))) (eC (.int 1))) (aCons (eBin gIx (eV 2) (eC (.int 1))) (aNil)))))) (sNx))
    (sSeq (sIf (tV (eBin gEq (eBin gIx (eV 1) (eC (.int 0))) (eC (.str (Str.ofString "use"))))) (sRet (eBin gAdd (eC (.int 1)) (eCall c_measured (aCons (eV 0) (aCons (eCall S_shape_of (aCons (eV 0) (aCons (eBin gIx (eV 1) (eC (.int 1))) (aNil)))) (aCons (eV 2) (aNil))))))) (sNx))
    (sRet (eFn gSumA (aCons (eFz (fLc (iSeq (eV 2)) [4] (.nm 4) (tTrue) (eBin gAdd (eC (.int 1)) (eCall c_measured (aCons (eV 0) (aCons (eBin gIx (eV 1) (eC (.int 1))) (aCons (eV 4) (aNil)))))))) (aNil)))))))))
noncomputable def S_measured : Nat → List D → Sto → R D
  | 0 => fun _ _ => .stk
  | n + 1 => U_measured (S_measured n)
noncomputable def L_heaps_0 : S := sDrop (eApp (eDSetd (eV 3) (eCall (S_measured 20) (aCons (eV 0) (aCons (eV 1) (aCons (eV 4) (aNil))))) (eNw (fLst (aNil)))) (eV 4))
noncomputable def S_heaps : List D → Sto → R D := runG 5 (
    sSeq (sSet 3 (eDNewK))
    (sSeq (sFor (iSeq (eV 2)) (.nm 4) (L_heaps_0))
    (sRet (eV 3))))
noncomputable def S_sign_of : List D → Sto → R D := runG 1 (
    sRet (eBin gSub (eFn gInt (aCons (eBin gGt (eV 0) (eC (.int 0))) (aNil))) (eFn gInt (aCons (eBin gLt (eV 0) (eC (.int 0))) (aNil)))))
noncomputable def L_order_of_texts_0 : S := sIf (tV (eBin gNe (eV 3) (eV 4))) (sRet (eCall S_sign_of (aCons (eBin gSub (eM1 gFind (eV 0) (eV 3)) (eM1 gFind (eV 0) (eV 4))) (aNil)))) (sNx)
noncomputable def S_order_of_texts : List D → Sto → R D := runG 5 (
    sSeq (sFor (iZipS (aCons (eV 1) (aCons (eV 2) (aNil)))) (.tp [.nm 3, .nm 4]) (L_order_of_texts_0))
    (sRet (eC (.int 0))))
noncomputable def U_order (c_order : List D → Sto → R D) (c_order_of_heaps : List D → Sto → R D) (c_order_of_picks : List D → Sto → R D) (c_order_of_rows : List D → Sto → R D) : List D → Sto → R D := runG 7 (
    sSeq (sSet 4 (eCall (S_measured 20) (aCons (eV 0) (aCons (eV 1) (aCons (eV 2) (aNil))))))
    (sSeq (sSet 5 (eCall (S_measured 20) (aCons (eV 0) (aCons (eV 1) (aCons (eV 3) (aNil))))))
    (sSeq (sIf (tV (eBin gNe (eV 4) (eV 5))) (sRet (eCall S_sign_of (aCons (eBin gSub (eV 4) (eV 5)) (aNil)))) (sNx))
    (sSeq (sIf (tV (eBin gEq (eBin gIx (eV 1) (eC (.int 0))) (eC (.str (Str.ofString "whole"))))) (sRet (eCall S_sign_of (aCons (eBin gSub (eV 2) (eV 3)) (aNil)))) (sNx))
    (sSeq (sIf (tV (eBin gEq (eBin gIx (eV 1) (eC (.int 0))) (eC (.str (Str.ofString "text"))))) (sRet (eCall S_order_of_texts (aCons (eBin gIx (eV 1) (eC (.int 1))) (aCons (eV 2) (aCons (eV 3) (aNil)))))) (sNx))
    (sSeq (sIf (tV (eBin gEq (eBin gIx (eV 1) (eC (.int 0))) (eC (.str (Str.ofString "row"))))) (sRet (eCall c_order_of_rows (aCons (eV 0) (aCons (eBin gIx (eV 1) (eC (.int 1))) (aCons (eV 2) (aCons (eV 3) (aNil))))))) (sNx))
    (sSeq (sIf (tV (eBin gEq (eBin gIx (eV 1) (eC (.int 0))) (eC (.str (Str.ofString "pick"))))) (sRet (eCall c_order_of_picks (aCons (eV 0) (aCons (eBin gIx (eV 1) (eC (.int 1))) (aCons (eV 2) (aCons (eV 3) (aNil))))))) (sNx))
    (sSeq (sIf (tV (eBin gEq (eBin gIx (eV 1) (eC (.int 0))) (eC (.str (Str.ofString "use"))))) (sRet (eCall c_order (aCons (eV 0) (aCons (eCall S_shape_of (aCons (eV 0) (aCons (eBin gIx (eV 1) (eC (.int 1))) (aNil)))) (aCons (eV 2) (aCons (eV 3) (aNil))))))) (sNx))
    (sSeq (sIf (tOrr (tV (eBin gEq (eBin gIx (eV 1) (eC (.int 0))) (eC (.str (Str.ofString "rising"))))) (tV (eBin gEq (eBin gIx (eV 1) (eC (.int 0))) (eC (.str (Str.ofString "unlike")))))) (sRet (eCall c_order_of_heaps (aCons (eV 0) (aCons (eBin gIx (eV 1) (eC (.int 1))) (aCons (eV 2) (aCons (eV 3) (aNil))))))) (sNx))
    (sSeq (sIf (tV (eBin gEq (eBin gIx (eV 1) (eC (.int 0))) (eC (.str (Str.ofString "alike"))))) (sRet (eCall c_order (aCons (eV 0) (aCons (eBin gIx (eV 1) (eC (.int 1))) (aCons (eBin gIx (eV 2) (eC (.int 0))) (aCons (eBin gIx (eV 3) (eC (.int 0))) (aNil))))))) (sNx))
    (sRet (eCall c_order_of_rows (aCons (eV 0) (aCons (eFz (fLc (iSeq (eV 2)) [6] (.nm 6) (tTrue) (eBin gIx (eV 1) (eC (.int 1))))) (aCons (eV 2) (aCons (eV 3) (aNil)))))))))))))))))
noncomputable def L_order_of_heaps_0 (c_order : List D → Sto → R D) (c_order_of_heaps : List D → Sto → R D) (c_order_of_picks : List D → Sto → R D) (c_order_of_rows : List D → Sto → R D) : S := sSeq (sSet 7 (eDGet2 (eV 4) (eV 6) (eFz (fLst (aNil)))))
    (sSeq (sSet 8 (eDGet2 (eV 5) (eV 6) (eFz (fLst (aNil)))))
    (sSeq (sIf (tV (eBin gNe (eFn gLen (aCons (eV 7) (aNil))) (eFn gLen (aCons (eV 8) (aNil))))) (sRet (eCall S_sign_of (aCons (eBin gSub (eFn gLen (aCons (eV 7) (aNil))) (eFn gLen (aCons (eV 8) (aNil)))) (aNil)))) (sNx))
    (sSeq (sSet 9 (eCall c_order_of_rows (aCons (eV 0) (aCons (eFz (fLcO (iSeqO (eV 7)) [10] (.nm 10) (tTrue) (eV 1))) (aCons (eUn gRevA (eV 7)) (aCons (eUn gRevA (eV 8)) (aNil)))))))
    (sIf (tV (eBin gNe (eV 9) (eC (.int 0)))) (sRet (eV 9)) (sNx)))))
noncomputable def U_order_of_heaps (c_order : List D → Sto → R D) (c_order_of_heaps : List D → Sto → R D) (c_order_of_picks : List D → Sto → R D) (c_order_of_rows : List D → Sto → R D) : List D → Sto → R D := runG 11 (
    sSeq (sSet 4 (eCall S_heaps (aCons (eV 0) (aCons (eV 1) (aCons (eV 2) (aNil))))))
    (sSeq (sSet 5 (eCall S_heaps (aCons (eV 0) (aCons (eV 1) (aCons (eV 3) (aNil))))))
    (sSeq (sFor (iSeq (eSortU (eV 4) (eV 5))) (.nm 6) (L_order_of_heaps_0 c_order c_order_of_heaps c_order_of_picks c_order_of_rows))
    (sRet (eC (.int 0))))))
noncomputable def U_order_of_picks (c_order : List D → Sto → R D) (c_order_of_heaps : List D → Sto → R D) (c_order_of_picks : List D → Sto → R D) (c_order_of_rows : List D → Sto → R D) : List D → Sto → R D := runG 6 (
    sSeq (sSet 4 (eCall S_place_of (aCons (eV 1) (aCons (eBin gIx (eV 2) (eC (.int 0))) (aNil)))))
    (sSeq (sSet 5 (eCall S_place_of (aCons (eV 1) (aCons (eBin gIx (eV 3) (eC (.int 0))) (aNil)))))
    (sSeq (sIf (tV (eBin gNe (eV 4) (eV 5))) (sRet (eCall S_sign_of (aCons (eBin gSub (eV 4) (eV 5)) (aNil)))) (sNx))
    (sRet (eCall c_order (aCons (eV 0) (aCons (eBin gIx (eBin gIx (eV 1) (eV 4)) (eC (.int 1))) (aCons (eBin gIx (eV 2) (eC (.int 1))) (aCons (eBin gIx (eV 3) (eC (.int 1))) (aNil))))))))))
noncomputable def L_order_of_rows_0 (c_order : List D → Sto → R D) (c_order_of_heaps : List D → Sto → R D) (c_order_of_picks : List D → Sto → R D) (c_order_of_rows : List D → Sto → R D) : S := sSeq (sSet 5 (eCall c_order (aCons (eV 0) (aCons (eBin gIx (eV 1) (eV 4)) (aCons (eBin gIx (eV 2) (eV 4)) (aCons (eBin gIx (eV 3) (eV 4)) (aNil)))))))
    (sIf (tV (eBin gNe (eV 5) (eC (.int 0)))) (sRet (eV 5)) (sNx))
noncomputable def U_order_of_rows (c_order : List D → Sto → R D) (c_order_of_heaps : List D → Sto → R D) (c_order_of_picks : List D → Sto → R D) (c_order_of_rows : List D → Sto → R D) : List D → Sto → R D := runG 6 (
    sSeq (sFor (iRange1 (aCons (eFn gMin2 (aCons (eFn gLen (aCons (eV 2) (aNil))) (aCons (eFn gLen (aCons (eV 3) (aNil))) (aNil)))) (aNil))) (.nm 4) (L_order_of_rows_0 c_order c_order_of_heaps c_order_of_picks c_order_of_rows))
    (sRet (eC (.int 0))))
mutual
noncomputable def S_order : Nat → List D → Sto → R D
  | 0 => fun _ _ => .stk
  | n + 1 => U_order (S_order n) (S_order_of_heaps n) (S_order_of_picks n) (S_order_of_rows n)
noncomputable def S_order_of_heaps : Nat → List D → Sto → R D
  | 0 => fun _ _ => .stk
  | n + 1 => U_order_of_heaps (S_order n) (S_order_of_heaps n) (S_order_of_picks n) (S_order_of_rows n)
noncomputable def S_order_of_picks : Nat → List D → Sto → R D
  | 0 => fun _ _ => .stk
  | n + 1 => U_order_of_picks (S_order n) (S_order_of_heaps n) (S_order_of_picks n) (S_order_of_rows n)
noncomputable def S_order_of_rows : Nat → List D → Sto → R D
  | 0 => fun _ _ => .stk
  | n + 1 => U_order_of_rows (S_order n) (S_order_of_heaps n) (S_order_of_picks n) (S_order_of_rows n)
end
noncomputable def L_rises_0 : S := sIf (tV (eBin gGt (eCall (S_order 20) (aCons (eV 0) (aCons (eV 1) (aCons (eBin gIx (eV 2) (eBin gSub (eV 4) (eC (.int 1)))) (aCons (eBin gIx (eV 2) (eV 4)) (aNil)))))) (eV 3))) (sRet (eC (.bl false))) (sNx)
noncomputable def S_rises : List D → Sto → R D := runG 5 (
    sSeq (sFor (iRange2 (aCons (eC (.int 1)) (aCons (eFn gLen (aCons (eV 2) (aNil))) (aNil)))) (.nm 4) (L_rises_0))
    (sRet (eC (.bl true))))
noncomputable def U_fits (c_fits : List D → Sto → R D) (c_fits_branch : List D → Sto → R D) (c_fits_list : List D → Sto → R D) (c_fits_parts : List D → Sto → R D) : List D → Sto → R D := runG 4 (
    sSeq (sIf (tV (eBin gEq (eBin gIx (eV 1) (eC (.int 0))) (eC (.str (Str.ofString "whole"))))) (sRet (eAn (eUn (gIsi "int") (eV 2)) (eAn (eNt (eUn (gIsi "bool") (eV 2))) (eChain gLe gLe (eBin gIx (eV 1) (eC (.int 1))) (eV 2) (eBin gIx (eV 1) (eC (.int 2))))))) (sNx))
    (sSeq (sIf (tV (eBin gEq (eBin gIx (eV 1) (eC (.int 0))) (eC (.str (Str.ofString "text"))))) (sRet (eAn (eUn (gIsi "str") (eV 2)) (eFn gAll (aCons (eFz (fLc (iSeq (eV 2)) [3] (.nm 3) (tTrue) (eBin gIn (eV 3) (eBin gIx (eV 1) (eC (.int 1)))))) (aNil))))) (sNx))
    (sSeq (sIf (tV (eBin gEq (eBin gIx (eV 1) (eC (.int 0))) (eC (.str (Str.ofString "row"))))) (sRet (eAn (eUn (gIsi "tuple") (eV 2)) (eCall c_fits_parts (aCons (eV 0) (aCons (eBin gIx (eV 1) (eC (.int 1))) (aCons (eV 2) (aNil))))))) (sNx))
    (sSeq (sIf (tV (eBin gEq (eBin gIx (eV 1) (eC (.int 0))) (eC (.str (Str.ofString "pick"))))) (sRet (eAn (eUn (gIsi "tuple") (eV 2)) (eCall c_fits_branch (aCons (eV 0) (aCons (eBin gIx (eV 1) (eC (.int 1))) (aCons (eV 2) (aNil))))))) (sNx))
    (sSeq (sIf (tV (eBin gEq (eBin gIx (eV 1) (eC (.int 0))) (eC (.str (Str.ofString "use"))))) (sRet (eCall c_fits (aCons (eV 0) (aCons (eCall S_shape_of (aCons (eV 0) (aCons (eBin gIx (eV 1) (eC (.int 1))) (aNil)))) (aCons (eV 2) (aNil)))))) (sNx))
    (sRet (eAn (eUn (gIsi "list") (eV 2)) (eCall c_fits_list (aCons (eV 0) (aCons (eV 1) (aCons (eV 2) (aNil))))))))))))
noncomputable def U_fits_branch (c_fits : List D → Sto → R D) (c_fits_branch : List D → Sto → R D) (c_fits_list : List D → Sto → R D) (c_fits_parts : List D → Sto → R D) : List D → Sto → R D := runG 4 (
    sSeq (sIf (tOrr (tV (eBin gNe (eFn gLen (aCons (eV 2) (aNil))) (eC (.int 2)))) (tNt (tV (eUn (gIsi "str") (eBin gIx (eV 2) (eC (.int 0))))))) (sRet (eC (.bl false))) (sNx))
    (sSeq (sSet 3 (eCall S_place_of (aCons (eV 1) (aCons (eBin gIx (eV 2) (eC (.int 0))) (aNil)))))
    (sRet (eAn (eBin gGe (eV 3) (eC (.int 0))) (eCall c_fits (aCons (eV 0) (aCons (eBin gIx (eBin gIx (eV 1) (eV 3)) (eC (.int 1))) (aCons (eBin gIx (eV 2) (eC (.int 1))) (aNil)))))))))
noncomputable def L_fits_list_0 (c_fits : List D → Sto → R D) (c_fits_branch : List D → Sto → R D) (c_fits_list : List D → Sto → R D) (c_fits_parts : List D → Sto → R D) : S := sIf (tNt (tV (eCall c_fits (aCons (eV 0) (aCons (eBin gIx (eV 1) (eC (.int 1))) (aCons (eV 3) (aNil))))))) (sRet (eC (.bl false))) (sNx)
noncomputable def U_fits_list (c_fits : List D → Sto → R D) (c_fits_branch : List D → Sto → R D) (c_fits_list : List D → Sto → R D) (c_fits_parts : List D → Sto → R D) : List D → Sto → R D := runG 4 (
    sSeq (sFor (iSeq (eV 2)) (.nm 3) (L_fits_list_0 c_fits c_fits_branch c_fits_list c_fits_parts))
    (sSeq (sIf (tV (eBin gEq (eBin gIx (eV 1) (eC (.int 0))) (eC (.str (Str.ofString "rising"))))) (sRet (eCall S_rises (aCons (eV 0) (aCons (eBin gIx (eV 1) (eC (.int 1))) (aCons (eV 2) (aCons (eC (.int 0)) (aNil))))))) (sNx))
    (sSeq (sIf (tV (eBin gEq (eBin gIx (eV 1) (eC (.int 0))) (eC (.str (Str.ofString "unlike"))))) (sRet (eCall S_rises (aCons (eV 0) (aCons (eBin gIx (eV 1) (eC (.int 1))) (aCons (eV 2) (aCons (eUn gNeg (eC (.int 1))) (aNil))))))) (sNx))
    (sSeq (sIf (tV (eBin gEq (eBin gIx (eV 1) (eC (.int 0))) (eC (.str (Str.ofString "alike"))))) (sRet (eCall S_all_alike (aCons (eBin gIx (eV 1) (eC (.int 2))) (aCons (eV 2) (aNil))))) (sNx))
    (sRet (eC (.bl true)))))))
noncomputable def L_fits_parts_0 (c_fits : List D → Sto → R D) (c_fits_branch : List D → Sto → R D) (c_fits_list : List D → Sto → R D) (c_fits_parts : List D → Sto → R D) : S := sIf (tNt (tV (eCall c_fits (aCons (eV 0) (aCons (eV 3) (aCons (eV 4) (aNil))))))) (sRet (eC (.bl false))) (sNx)
noncomputable def U_fits_parts (c_fits : List D → Sto → R D) (c_fits_branch : List D → Sto → R D) (c_fits_list : List D → Sto → R D) (c_fits_parts : List D → Sto → R D) : List D → Sto → R D := runG 5 (
    sSeq (sIf (tV (eBin gNe (eFn gLen (aCons (eV 1) (aNil))) (eFn gLen (aCons (eV 2) (aNil))))) (sRet (eC (.bl false))) (sNx))
    (sSeq (sFor (iZipD (aCons (eV 1) (aCons (eV 2) (aNil)))) (.tp [.nm 3, .nm 4]) (L_fits_parts_0 c_fits c_fits_branch c_fits_list c_fits_parts))
    (sRet (eC (.bl true)))))
mutual
noncomputable def S_fits : Nat → List D → Sto → R D
  | 0 => fun _ _ => .stk
  | n + 1 => U_fits (S_fits n) (S_fits_branch n) (S_fits_list n) (S_fits_parts n)
noncomputable def S_fits_branch : Nat → List D → Sto → R D
  | 0 => fun _ _ => .stk
  | n + 1 => U_fits_branch (S_fits n) (S_fits_branch n) (S_fits_list n) (S_fits_parts n)
noncomputable def S_fits_list : Nat → List D → Sto → R D
  | 0 => fun _ _ => .stk
  | n + 1 => U_fits_list (S_fits n) (S_fits_branch n) (S_fits_list n) (S_fits_parts n)
noncomputable def S_fits_parts : Nat → List D → Sto → R D
  | 0 => fun _ _ => .stk
  | n + 1 => U_fits_parts (S_fits n) (S_fits_branch n) (S_fits_list n) (S_fits_parts n)
end
noncomputable def L_compared_0 : S := sIf (tNt (tV (eCall (S_fits 20) (aCons (eV 0) (aCons (eV 1) (aCons (eV 4) (aNil))))))) (sRaiseF "NoValue" ["value"] (aCons (eC (.str (Str.ofString "not of the shape"))) (aCons (eV 4) (aNil)))) (sNx)
noncomputable def S_compared : List D → Sto → R D := runG 5 (
    sSeq (sFor (iSeq (eFz (fLst (aCons (eV 2) (aCons (eV 3) (aNil)))))) (.nm 4) (L_compared_0))
    (sRet (eCall (S_order 20) (aCons (eV 0) (aCons (eV 1) (aCons (eV 2) (aCons (eV 3) (aNil))))))))
noncomputable def S_l_asked : List D → Sto → R D := runG 6 (
    sSeq (sSet 4 (eFz (fLst (aCons (eFn gList (aCons (eV 1) (aNil))) (aCons (eFn gList (aCons (eV 2) (aNil))) (aNil))))))
    (sSeq (sSet 5 (eCall S_compared (aCons (eFz (fLst (aNil))) (aCons (eV 0) (aCons (eBin gIx (eV 4) (eC (.int 0))) (aCons (eBin gIx (eV 4) (eC (.int 1))) (aNil)))))))
    (sRet (eAn (eCall S_l_whole (aCons (eV 5) (aNil))) (eAn (eBin gEq (eV 5) (eV 3)) (eBin gEq (eV 4) (eFz (fLst (aCons (eV 1) (aCons (eV 2) (aNil)))))))))))
noncomputable def S_l_cell_at : List D → Sto → R D := runG 2 (
    sSeq (sIf (tV (eBin gLt (eV 1) (eFn gLen (aCons (eV 0) (aNil))))) (sRet (eBin gIx (eV 0) (eV 1))) (sNx))
    (sRet (eC (.int 0))))
noncomputable def L_l_due_1 : S := sIf (tV (eBin gNe (eV 7) (eV 8))) (sRet (eBin gSub (eFn gInt (aCons (eBin gGt (eBin gIx (eV 7) (eC (.int 1))) (eBin gIx (eV 8) (eC (.int 1)))) (aNil))) (eFn gInt (aCons (eBin gLt (eBin gIx (eV 7) (eC (.int 1))) (eBin gIx (eV 8) (eC (.int 1)))) (aNil))))) (sNx)
noncomputable def L_l_due_0 : S := sSeq (sSet 5 (eFz (fLc (iSeq (eV 0)) [10] (.nm 10) (tV (eBin gEq (eBin gIx (eV 10) (eC (.int 0))) (eV 4))) (eV 10))))
    (sSeq (sSet 6 (eFz (fLc (iSeq (eV 1)) [10] (.nm 10) (tV (eBin gEq (eBin gIx (eV 10) (eC (.int 0))) (eV 4))) (eV 10))))
    (sSeq (sIf (tV (eBin gNe (eFn gLen (aCons (eV 5) (aNil))) (eFn gLen (aCons (eV 6) (aNil))))) (sRet (eBin gSub (eFn gInt (aCons (eBin gGt (eFn gLen (aCons (eV 5) (aNil))) (eFn gLen (aCons (eV 6) (aNil)))) (aNil))) (eFn gInt (aCons (eBin gLt (eFn gLen (aCons (eV 5) (aNil))) (eFn gLen (aCons (eV 6) (aNil)))) (aNil))))) (sNx))
    (sFor (iZipD (aCons (eUn gRevA (eV 5)) (aCons (eUn gRevA (eV 6)) (aNil)))) (.tp [.nm 7, .nm 8]) (L_l_due_1))))
noncomputable def S_l_due : List D → Sto → R D := runG 11 (
    sSeq (sSet 2 (eFn gSumA (aCons (eFz (fLc (iSeq (eV 0)) [4, 9] (.tp [.nm 4, .nm 9]) (tTrue) (eBin gAdd (eC (.int 1)) (eV 4)))) (aNil))))
    (sSeq (sSet 3 (eFn gSumA (aCons (eFz (fLc (iSeq (eV 1)) [4, 9] (.tp [.nm 4, .nm 9]) (tTrue) (eBin gAdd (eC (.int 1)) (eV 4)))) (aNil))))
    (sSeq (sIf (tV (eBin gNe (eV 2) (eV 3))) (sRet (eBin gSub (eFn gInt (aCons (eBin gGt (eV 2) (eV 3)) (aNil))) (eFn gInt (aCons (eBin gLt (eV 2) (eV 3)) (aNil))))) (sNx))
    (sSeq (sFor (iRange1 (aCons (eC (.int 4)) (aNil))) (.nm 4) (L_l_due_0))
    (sRet (eC (.int 0)))))))
noncomputable def L_l_once_0 : S := sIf (tV (eBin gNinX (eV 2) (eV 1))) (sDrop (eApp (eV 1) (eV 2))) (sNx)
noncomputable def S_l_once : List D → Sto → R D := runG 3 (
    sSeq (sSet 1 (eNw (fLst (aNil))))
    (sSeq (sFor (iSeq (eV 0)) (.nm 2) (L_l_once_0))
    (sFrz 1 (sRet (eV 1)))))
noncomputable def S_l_part : List D → Sto → R D := runG 4 (
    sSeq (sSet 1 (eCall S_l_cell_at (aCons (eV 0) (aCons (eC (.int 1)) (aNil)))))
    (sSeq (sSet 2 (eBin gSub (eBin gMod (eBin gDiv (eV 1) (eC (.int 2))) (eBin gPow (eC (.int 10)) (eC (.int 20)))) (eBin gMul (eC (.int 5)) (eBin gPow (eC (.int 10)) (eC (.int 19))))))
    (sSeq (sSet 3 (eBin gIx (eFz (fLst (aCons (eC (.str (Str.ofString "abc"))) (aCons (eC (.str (Str.ofString "bca"))) (aCons (eC (.str (Str.ofString "cba"))) (aCons (eC (.str (Str.ofString "acb"))) (aNil))))))) (eBin gMod (eBin gDiv (eV 1) (eC (.int 2))) (eC (.int 4)))))
    (sRet (eBin gIx (eFz (fLst (aCons (eTup (aCons (eC (.str (Str.ofString "whole"))) (aCons (eV 2) (aCons (eBin gAdd (eV 2) (eC (.int 7))) (aNil))))) (aCons (eTup (aCons (eC (.str (Str.ofString "text"))) (aCons (eV 3) (aNil)))) (aNil))))) (eBin gMod (eV 1) (eC (.int 2))))))))
noncomputable def S_l_spot : List D → Sto → R D := runG 3 (
    sSeq (sIf (tV (eBin gEq (eBin gIx (eV 0) (eC (.int 0))) (eC (.str (Str.ofString "whole"))))) (sRet (eTup (aCons (eV 1) (aCons (eBin gMod (eV 2) (eBin gIx (eFz (fLst (aCons (eC (.int 1)) (aCons (eC (.int 1)) (aCons (eC (.int 2)) (aCons (eC (.int 4)) (aNil))))))) (eV 1))) (aNil))))) (sNx))
    (sRet (eTup (aCons (eV 1) (aCons (eBin gMod (eV 2) (eBin gIx (eFz (fLst (aCons (eC (.int 1)) (aCons (eC (.int 3)) (aCons (eC (.int 9)) (aCons (eC (.int 27)) (aNil))))))) (eV 1))) (aNil))))))
noncomputable def L_l_spots_0 : S := sSeq (sSet 5 (eCall S_l_spot (aCons (eV 0) (aCons (eBin gMod (eV 4) (eC (.int 4))) (aCons (eBin gDiv (eV 4) (eC (.int 4))) (aNil))))))
    (sSeq (sDrop (eApp (eV 2) (eV 5)))
    (sSeq (sIf (tV (eBin gEq (eBin gMod (eBin gDiv (eV 4) (eC (.int 108))) (eC (.int 3))) (eC (.int 0)))) (sSet 5 (eCall S_l_spot (aCons (eV 0) (aCons (eBin gMod (eV 4) (eC (.int 4))) (aCons (eBin gDiv (eV 4) (eC (.int 324))) (aNil)))))) (sNx))
    (sDrop (eApp (eV 3) (eV 5)))))
noncomputable def L_l_spots_1 : S := sSeq (sSet 5 (eCall S_l_spot (aCons (eV 0) (aCons (eBin gIx (eV 6) (eV 7)) (aCons (eBin gDiv (eBin gDiv (eV 4) (eC (.int 4))) (eBin gAdd (eBin gMul (eC (.int 3)) (eV 7)) (eC (.int 1)))) (aNil))))))
    (sIf (tOrr (tAn (tV (eBin gLt (eBin gMul (eC (.int 2)) (eV 7)) (eFn gLen (aCons (eV 6) (aNil))))) (tV (eBin gEq (eFn gLen (aCons (eV 6) (aNil))) (eC (.int 4))))) (tAn (tV (eBin gEq (eFn gLen (aCons (eV 6) (aNil))) (eC (.int 3)))) (tV (eBin gEq (eV 7) (eC (.int 0)))))) (sDrop (eApp (eV 2) (eV 5))) (sDrop (eApp (eV 3) (eV 5))))
noncomputable def S_l_spots : List D → Sto → R D := runG 8 (
    sSeq (sSet 2 (eNw (fLst (aNil))))
    (sSeq (sSet 3 (eNw (fLst (aNil))))
    (sSeq (sFor (iSeq (eSl (eV 1) (oSome (eC (.int 3))) (oSome (eC (.int 40))))) (.nm 4) (L_l_spots_0))
    (sSeq (sSet 4 (eCall S_l_cell_at (aCons (eV 1) (aCons (eC (.int 2)) (aNil)))))
    (sSeq (sSet 6 (eBin gIx (eFz (fLst (aCons (eFz (fLst (aNil))) (aCons (eFz (fLst (aCons (eC (.int 1)) (aCons (eC (.int 3)) (aCons (eC (.int 2)) (aCons (eC (.int 2)) (aNil))))))) (aCons (eFz (fLst (aCons (eC (.int 0)) (aCons (eC (.int 3)) (aCons (eC (.int 1)) (aCons (eC (.int 2)) (aNil))))))) (aCons (eFz (fLst (aCons (eC (.int 1)) (aCons (eC (.int 0)) (aCons (eC (.int 0)) (aNil)))))) (aNil))))))) (eBin gMod (eV 4) (eC (.int 4)))))
    (sSeq (sFor (iRange1 (aCons (eFn gLen (aCons (eV 6) (aNil))) (aNil))) (.nm 7) (L_l_spots_1))
    (sFrz 3 (sFrz 2 (sRet (eTup (aCons (ePSort (eV 2)) (aCons (ePSort (eV 3)) (aNil)))))))))))))
noncomputable def L_l_thing_0 : S := sSeq (sSet 4 (eBin gAdd (eBin gIx (eBin gIx (eV 0) (eC (.int 1))) (eBin gMod (eV 3) (eC (.int 3)))) (eV 4)))
    (sSet 3 (eBin gDiv (eV 3) (eC (.int 3))))
noncomputable def S_l_thing : List D → Sto → R D := runG 6 (
    sSeq (sAsg (.tp [.nm 2, .nm 3]) (eV 1))
    (sSeq (sIf (tV (eBin gEq (eBin gIx (eV 0) (eC (.int 0))) (eC (.str (Str.ofString "whole"))))) (sRet (eBin gAdd (eBin gAdd (eBin gIx (eV 0) (eC (.int 1))) (eBin gIx (eFz (fLst (aCons (eC (.int 0)) (aCons (eC (.int 1)) (aCons (eC (.int 2)) (aCons (eC (.int 4)) (aNil))))))) (eV 2))) (eV 3))) (sNx))
    (sSeq (sSet 4 (eC (.str (Str.ofString ""))))
    (sSeq (sFor (iRange1 (aCons (eV 2) (aNil))) (.nm 5) (L_l_thing_0))
    (sRet (eV 4))))))
noncomputable def S_law : List D → Sto → R D := runG 9 (
    sSeq (sSet 1 (eCall S_l_part (aCons (eV 0) (aNil))))
    (sSeq (sAsg (.tp [.nm 2, .nm 3]) (eCall S_l_spots (aCons (eV 1) (aCons (eV 0) (aNil)))))
    (sSeq (sSet 4 (eTup (aCons (eC (.str (Str.ofString "rising"))) (aCons (eV 1) (aNil)))))
    (sSeq (sIf (tV (eBin gEq (eBin gMod (eCall S_l_cell_at (aCons (eV 0) (aCons (eC (.int 0)) (aNil)))) (eC (.int 2))) (eC (.int 1)))) (sSeq (sSet 4 (eTup (aCons (eC (.str (Str.ofString "unlike"))) (aCons (eV 1) (aNil)))))
    (sSeq (sSet 2 (eCall S_l_once (aCons (eV 2) (aNil))))
    (sSet 3 (eCall S_l_once (aCons (eV 3) (aNil)))))) (sNx))
    (sSeq (sSet 5 (eCall S_l_due (aCons (eV 2) (aCons (eV 3) (aNil)))))
    (sSeq (sSet 6 (eFz (fLc (iSeq (eV 2)) [8] (.nm 8) (tTrue) (eCall S_l_thing (aCons (eV 1) (aCons (eV 8) (aNil)))))))
    (sSeq (sSet 7 (eFz (fLc (iSeq (eV 3)) [8] (.nm 8) (tTrue) (eCall S_l_thing (aCons (eV 1) (aCons (eV 8) (aNil)))))))
    (sSeq (sIf (tOrr (tNt (tV (eCall S_l_asked (aCons (eV 4) (aCons (eV 6) (aCons (eV 7) (aCons (eV 5) (aNil)))))))) (tNt (tV (eCall S_l_asked (aCons (eV 4) (aCons (eV 7) (aCons (eV 6) (aCons (eBin gSub (eC (.int 0)) (eV 5)) (aNil))))))))) (sRet (eC (.bl false))) (sNx))
    (sRet (eCall S_l_asked (aCons (eV 4) (aCons (eV 6) (aCons (eV 6) (aCons (eC (.int 0)) (aNil)))))))))))))))
/-! they keep it -/
section
variable {P : Program} {w : World} {K : PySem.W.Frag} {mg : Str → Option Value} {base : Heap} {ct : String → Addr}
set_option maxHeartbeats 4000000 in
theorem ok_NoValue___init__ {a : Addr} {fd : FuncData} (F : L2.Fun K "__init__" "NoValue.__init__" s_NoValue___init__ a fd) {B C : Addr} (gB : mg "CountError" = some (.ref B)) (ga : PySem.W.specialIn K (.ref B) "__getattribute__" = some (some (.builtin "type.__getattribute__"))) (hT : PySem.W.typeIn K (.ref B) = some (.type "type")) (rd : PySem.W.readsIn K B (.type "type") = true) (vV : PySem.W.findCls K (.ref B) (.type "type") "__init__" = some (.val (.builtin "ValueError.__init__"))) (nf0 : PySem.W.findIn K (.ref C) "value" = some none) :
    FnOk P w K mg base (L2.CX P w) 1 a fd PI_NoValue (spXI K C ["value"]) := by
  refine F.okX (N := PI_NoValue) sc_NoValue___init__ (fun vs H Q E ⟨a, w, ys, e, hl, _⟩ => by subst e; simpa using hl) (fun cdv A outer s H vs Q E hr ⟨a, w, ys, e, hl, T, ha, q⟩ => ⟨_, pss_cons (ps_expr (pe_ceinit rfl gB ga hT rd vV (pa_cons (pv 0) (pa_cons (pv 1) pa_nil)))) (pss_one (ps_ost (pv 0) (pv 2))), ?_⟩)
  subst e
  match ys, hl with
  | [y0], _ =>
    refine ⟨_, rfl, _, rfl, a, C, _, rfl, by simp, T, ha, _, rfl, _, rfl, a, C, rfl, T, nf0, .inl ⟨ha, fun dx nd ne => ?_⟩⟩
    exact q _ dx nd ne upd_same (by rw [upd_ne ne]; exact upd_same) fun b b1 b2 => by rw [upd_ne b1, upd_ne b2]
set_option maxHeartbeats 4000000 in
theorem ok_l_whole {a : Addr} {fd : FuncData} (F : L2.Fun K "_law_whole" "_law_whole" s_l_whole a fd) (Z_bool : mg "bool" = none) (Z_int : mg "int" = none) (Z_isinstance : mg "isinstance" = none) :
    FnOk P w K mg base (L2.CX P w) 1 a fd P_l_whole (spG K ct 1 S_l_whole) := by
  refine fn_ok (N := N_l_whole) (ct := ct) F sc_l_whole (by decide) (fun cdv A outer s H v E hr => ?_)
  have nd := sc_l_whole.nd
  exact ss_one (ss_ret (se_and (se_isi (n := "int") (se_var 0) rfl Z_isinstance rfl Z_int (by decide +kernel)) (se_one (se_nt (se_isi (n := "bool") (se_var 0) rfl Z_isinstance rfl Z_bool (by decide +kernel))))))
set_option maxHeartbeats 4000000 in
theorem ok_place_of {a : Addr} {fd : FuncData} (F : L2.Fun K "place_of" "place_of" s_place_of a fd) (Z_enumerate : mg "enumerate" = none) :
    FnOk P w K mg base (L2.CX P w) 1 a fd P_place_of (spG K ct 2 S_place_of) := by
  refine fn_ok (N := N_place_of) (ct := ct) F sc_place_of (by decide) (fun cdv A outer s H v E hr => ?_)
  have nd := sc_place_of.nd
  exact ss_cons (ss_for (passes_of rfl) rfl (si_enumX rfl Z_enumerate (sa_cons (se_var 0) (sa_nil))) (sg_tup rfl (sgs_cons (sg_name 2 nd) (sgs_cons (sg_name 3 nd) (sgs_nil)))) (ss_one (ss_if (st_cmp (o_eq (hu_big hr)) (se_ix (se_var 3) (se_int)) (se_var 1)) (ss_one (ss_ret (se_var 2))) (ss_nil))))
    (ss_one (ss_ret (se_un o_neg (se_int))))
set_option maxHeartbeats 4000000 in
theorem ok_all_alike {a : Addr} {fd : FuncData} (F : L2.Fun K "all_alike" "all_alike" s_all_alike a fd) (Z_all : mg "all" = none) (Z_len : mg "len" = none) :
    FnOk P w K mg base (L2.CX P w) 1 a fd P_all_alike (spG K ct 2 S_all_alike) := by
  refine fn_ok (N := N_all_alike) (ct := ct) F sc_all_alike (by decide) (fun cdv A outer s H v E hr => ?_)
  have nd := sc_all_alike.nd
  exact ss_one (ss_ret (se_and (se_cmp (o_eq (hu_big hr)) (se_callB (b_len) rfl Z_len (by decide +kernel) (sa_cons (se_var 1) (sa_nil))) (se_var 0)) (se_one (se_callB (b_all rfl) rfl Z_all (by decide +kernel) (sa_cons (SF.fz (sf_lc [("thing", 2)] rfl nd (si_seq (se_var 1)) (blkOk_by (by change blkC N_all_alike (defScope s_all_alike) _ _ = true; decide +kernel)) (by decide) (fun _ _ _ _ _ => sg_name 2 nd) (fun _ _ _ _ _ => sts_nil) (fun _ _ _ _ _ => se_cmp (o_eq (hu_big hr)) (se_var 2) (se_ix (se_var 1) (se_int))))) (sa_nil))))))
set_option maxHeartbeats 4000000 in
theorem ok_shape_of {a : Addr} {fd : FuncData} (F : L2.Fun K "shape_of" "shape_of" s_shape_of a fd) (X_NoName : XC K mg ct "NoName") :
    FnOk P w K mg base (L2.CX P w) 1 a fd P_shape_of (spG K ct 2 S_shape_of) := by
  refine fn_ok (N := N_shape_of) (ct := ct) F sc_shape_of (by decide) (fun cdv A outer s H v E hr => ?_)
  have nd := sc_shape_of.nd
  exact ss_cons (ss_for (passes_of rfl) rfl (si_seq (se_var 0)) (sg_tup rfl (sgs_cons (sg_name 2 nd) (sgs_cons (sg_name 3 nd) (sgs_nil)))) (ss_one (ss_if (st_cmp (o_eq (hu_big hr)) (se_var 2) (se_var 1)) (ss_one (ss_ret (se_var 3))) (ss_nil))))
    (ss_one (ss_raise (cn := "NoName") rfl (takes_of rfl rfl rfl rfl) X_NoName rfl))
set_option maxHeartbeats 4000000 in
theorem ok_measured {a : Addr} {fd : FuncData} (F : L2.Fun K "measured" "measured" s_measured a fd) {k : Nat} (hk : 1 ≤ k) {c_measured : List D → Sto → R D} {a_measured : Addr} {f_measured : FuncData} (G_measured : FnOk P w K mg base (L2.CX P w) k a_measured f_measured P_measured (spG K ct 3 c_measured)) (M_measured : mg "measured" = some (.ref a_measured)) (K_measured : PySem.W.keepIn K (.ref a_measured) = true) (B_measured : Binds K f_measured P_measured []) {a_place_of : Addr} {f_place_of : FuncData} (G_place_of : FnOk P w K mg base (L2.CX P w) 1 a_place_of f_place_of P_place_of (spG K ct 2 S_place_of)) (M_place_of : mg "place_of" = some (.ref a_place_of)) (K_place_of : PySem.W.keepIn K (.ref a_place_of) = true) (B_place_of : Binds K f_place_of P_place_of []) {a_shape_of : Addr} {f_shape_of : FuncData} (G_shape_of : FnOk P w K mg base (L2.CX P w) 1 a_shape_of f_shape_of P_shape_of (spG K ct 2 S_shape_of)) (M_shape_of : mg "shape_of" = some (.ref a_shape_of)) (K_shape_of : PySem.W.keepIn K (.ref a_shape_of) = true) (B_shape_of : Binds K f_shape_of P_shape_of []) (Z_len : mg "len" = none) (Z_sum : mg "sum" = none) (Z_zip : mg "zip" = none) :
    FnOk P w K mg base (L2.CX P w) (k + 1) a fd P_measured (spG K ct 3 (U_measured c_measured)) := by
  refine fn_ok (N := N_measured) (ct := ct) F sc_measured (by decide) (fun cdv A outer s H v E hr => ?_)
  have nd := sc_measured.nd
  exact ss_cons (ss_if (st_cmp (o_eq (hu_big hr)) (se_ix (se_var 1) (se_int)) (se_str)) (ss_one (ss_ret (se_bits (se_bin o_sub (se_var 2) (se_ix (se_var 1) (se_int)))))) (ss_nil))
    (ss_cons (ss_if (st_cmp (o_eq (hu_big hr)) (se_ix (se_var 1) (se_int)) (se_str)) (ss_one (ss_ret (se_callB (b_len) rfl Z_len (by decide +kernel) (sa_cons (se_var 2) (sa_nil))))) (ss_nil))
    (ss_cons (ss_if (st_cmp (o_eq (hu_big hr)) (se_ix (se_var 1) (se_int)) (se_str)) (ss_one (ss_ret (se_callB (b_sumA rfl) rfl Z_sum (by decide +kernel) (sa_cons (SF.fz (sf_lc [("part", 3), ("thing", 4)] rfl nd (si_zip rfl Z_zip (sa_cons (se_ix (se_var 1) (se_int)) (sa_cons (se_var 2) (sa_nil)))) (blkOk_by (by change blkC N_measured (defScope s_measured) _ _ = true; decide +kernel)) (by decide) (fun _ _ _ _ _ => sg_tup rfl (sgs_cons (sg_name 3 nd) (sgs_cons (sg_name 4 nd) (sgs_nil)))) (fun _ _ _ _ _ => sts_nil) (fun _ _ _ _ _ => se_call G_measured (hr) takes0 rfl M_measured K_measured B_measured (sa_cons (se_var 0) (sa_cons (se_var 3) (sa_cons (se_var 4) (sa_nil)))) (lenA_cons (lenA_cons (lenA_cons (lenA_nil))))))) (sa_nil))))) (ss_nil))
    (ss_cons (ss_if (st_cmp (o_eq (hu_big hr)) (se_ix (se_var 1) (se_int)) (se_str)) (ss_one (ss_ret (se_call G_measured (hr) (takes_of rfl rfl rfl rfl) rfl M_measured K_measured B_measured (sa_cons (se_var 0) (sa_cons (se_ix (se_ix (se_ix (se_var 1) (se_int)) (se_call G_place_of (hr.mono (Nat.le_trans (by decide) hk)) (takes_of rfl rfl rfl rfl) rfl M_place_of K_place_of B_place_of (sa_cons (se_ix (se_var 1) (se_int)) (sa_cons (se_ix (se_var 2) (se_int)) (sa_nil))) (lenA_cons (lenA_cons (lenA_nil))))) (se_int)) (sa_cons (se_ix (se_var 2) (se_int)) (sa_nil)))) (lenA_cons (lenA_cons (lenA_cons (lenA_nil))))))) (ss_nil))
    (ss_cons (ss_if (st_cmp (o_eq (hu_big hr)) (se_ix (se_var 1) (se_int)) (se_str)) (ss_one (ss_ret (se_bin o_add (se_int) (se_call G_measured (hr) (takes_of rfl rfl rfl rfl) rfl M_measured K_measured B_measured (sa_cons (se_var 0) (sa_cons (se_call G_shape_of (hr.mono (Nat.le_trans (by decide) hk)) (takes_of rfl rfl rfl rfl) rfl M_shape_of K_shape_of B_shape_of (sa_cons (se_var 0) (sa_cons (se_ix (se_var 1) (se_int)) (sa_nil))) (lenA_cons (lenA_cons (lenA_nil)))) (sa_cons (se_var 2) (sa_nil)))) (lenA_cons (lenA_cons (lenA_cons (lenA_nil)))))))) (ss_nil))
    (ss_one (ss_ret (se_callB (b_sumA rfl) rfl Z_sum (by decide +kernel) (sa_cons (SF.fz (sf_lc [("thing", 4)] rfl nd (si_seq (se_var 2)) (blkOk_by (by change blkC N_measured (defScope s_measured) _ _ = true; decide +kernel)) (by decide) (fun _ _ _ _ _ => sg_name 4 nd) (fun _ _ _ _ _ => sts_nil) (fun _ _ _ _ _ => se_bin o_add (se_int) (se_call G_measured (hr) takes0 rfl M_measured K_measured B_measured (sa_cons (se_var 0) (sa_cons (se_ix (se_var 1) (se_int)) (sa_cons (se_var 4) (sa_nil)))) (lenA_cons (lenA_cons (lenA_cons (lenA_nil)))))))) (sa_nil)))))))))
set_option maxHeartbeats 4000000 in
theorem ok_heaps {a : Addr} {fd : FuncData} (F : L2.Fun K "heaps" "heaps" s_heaps a fd) {a_measured : Addr} {f_measured : FuncData} (G_measured : FnOk P w K mg base (L2.CX P w) 21 a_measured f_measured P_measured (spG K ct 3 (S_measured 20))) (M_measured : mg "measured" = some (.ref a_measured)) (K_measured : PySem.W.keepIn K (.ref a_measured) = true) (B_measured : Binds K f_measured P_measured []) :
    FnOk P w K mg base (L2.CX P w) 22 a fd P_heaps (spG K ct 3 S_heaps) := by
  refine fn_ok (N := N_heaps) (ct := ct) F sc_heaps (by decide) (fun cdv A outer s H v E hr => ?_)
  have nd := sc_heaps.nd
  exact ss_cons (ss_set 3 (se_dnewK) nd)
    (ss_cons (ss_for (passes_of rfl) rfl (si_seq (se_var 2)) (sg_name 4 nd) (ss_one (ss_expr (se_app (se_dsetd (se_var 3) (se_call G_measured (hr.mono (by decide)) (takes_of rfl rfl rfl rfl) rfl M_measured K_measured B_measured (sa_cons (se_var 0) (sa_cons (se_var 1) (sa_cons (se_var 4) (sa_nil)))) (lenA_cons (lenA_cons (lenA_cons (lenA_nil))))) (SF.nw (sf_lst (sa_nil)))) (se_var 4)))))
    (ss_one (ss_ret (se_var 3))))
set_option maxHeartbeats 4000000 in
theorem ok_sign_of {a : Addr} {fd : FuncData} (F : L2.Fun K "sign_of" "sign_of" s_sign_of a fd) (Z_int : mg "int" = none) :
    FnOk P w K mg base (L2.CX P w) 1 a fd P_sign_of (spG K ct 1 S_sign_of) := by
  refine fn_ok (N := N_sign_of) (ct := ct) F sc_sign_of (by decide) (fun cdv A outer s H v E hr => ?_)
  have nd := sc_sign_of.nd
  exact ss_one (ss_ret (se_bin o_sub (se_callT (b_int) rfl Z_int (by decide +kernel) (sa_cons (se_cmp o_gt (se_var 0) (se_int)) (sa_nil))) (se_callT (b_int) rfl Z_int (by decide +kernel) (sa_cons (se_cmp o_lt (se_var 0) (se_int)) (sa_nil)))))
set_option maxHeartbeats 4000000 in
theorem ok_order_of_texts {a : Addr} {fd : FuncData} (F : L2.Fun K "order_of_texts" "order_of_texts" s_order_of_texts a fd) {a_sign_of : Addr} {f_sign_of : FuncData} (G_sign_of : FnOk P w K mg base (L2.CX P w) 1 a_sign_of f_sign_of P_sign_of (spG K ct 1 S_sign_of)) (M_sign_of : mg "sign_of" = some (.ref a_sign_of)) (K_sign_of : PySem.W.keepIn K (.ref a_sign_of) = true) (B_sign_of : Binds K f_sign_of P_sign_of []) (Z_zip : mg "zip" = none) :
    FnOk P w K mg base (L2.CX P w) 2 a fd P_order_of_texts (spG K ct 3 S_order_of_texts) := by
  refine fn_ok (N := N_order_of_texts) (ct := ct) F sc_order_of_texts (by decide) (fun cdv A outer s H v E hr => ?_)
  have nd := sc_order_of_texts.nd
  exact ss_cons (ss_for (passes_of rfl) rfl (si_zipS rfl Z_zip (sa_cons (se_var 1) (sa_cons (se_var 2) (sa_nil)))) (sg_tup rfl (sgs_cons (sg_name 3 nd) (sgs_cons (sg_name 4 nd) (sgs_nil)))) (ss_one (ss_if (st_cmp (o_ne (hu_big hr)) (se_var 3) (se_var 4)) (ss_one (ss_ret (se_call G_sign_of (hr.mono (by decide)) (takes_of rfl rfl rfl rfl) rfl M_sign_of K_sign_of B_sign_of (sa_cons (se_bin o_sub (se_m1 PySem.F.slot_str_find PySem.F.type_str_find m_find (se_var 0) (se_var 3)) (se_m1 PySem.F.slot_str_find PySem.F.type_str_find m_find (se_var 0) (se_var 4))) (sa_nil)) (lenA_cons (lenA_nil))))) (ss_nil))))
    (ss_one (ss_ret (se_int)))
set_option maxHeartbeats 4000000 in
theorem ok_order {a : Addr} {fd : FuncData} (F : L2.Fun K "order" "order" s_order a fd) {k : Nat} (hk : 22 ≤ k) {c_order : List D → Sto → R D} {c_order_of_heaps : List D → Sto → R D} {c_order_of_picks : List D → Sto → R D} {c_order_of_rows : List D → Sto → R D} {a_measured : Addr} {f_measured : FuncData} (G_measured : FnOk P w K mg base (L2.CX P w) 21 a_measured f_measured P_measured (spG K ct 3 (S_measured 20))) (M_measured : mg "measured" = some (.ref a_measured)) (K_measured : PySem.W.keepIn K (.ref a_measured) = true) (B_measured : Binds K f_measured P_measured []) {a_order : Addr} {f_order : FuncData} (G_order : FnOk P w K mg base (L2.CX P w) k a_order f_order P_order (spG K ct 4 c_order)) (M_order : mg "order" = some (.ref a_order)) (K_order : PySem.W.keepIn K (.ref a_order) = true) (B_order : Binds K f_order P_order []) {a_order_of_heaps : Addr} {f_order_of_heaps : FuncData} (G_order_of_heaps : FnOk P w K mg base (L2.CX P w) k a_order_of_heaps f_order_of_heaps P_order_of_heaps (spG K ct 4 c_order_of_heaps)) (M_order_of_heaps : mg "order_of_heaps" = some (.ref a_order_of_heaps)) (K_order_of_heaps : PySem.W.keepIn K (.ref a_order_of_heaps) = true) (B_order_of_heaps : Binds K f_order_of_heaps P_order_of_heaps []) {a_order_of_picks : Addr} {f_order_of_picks : FuncData} (G_order_of_picks : FnOk P w K mg base (L2.CX P w) k a_order_of_picks f_order_of_picks P_order_of_picks (spG K ct 4 c_order_of_picks)) (M_order_of_picks : mg "order_of_picks" = some (.ref a_order_of_picks)) (K_order_of_picks : PySem.W.keepIn K (.ref a_order_of_picks) = true) (B_order_of_picks : Binds K f_order_of_picks P_order_of_picks []) {a_order_of_rows : Addr} {f_order_of_rows : FuncData} (G_order_of_rows : FnOk P w K mg base (L2.CX P w) k a_order_of_rows f_order_of_rows P_order_of_rows (spG K ct 4 c_order_of_rows)) (M_order_of_rows : mg "order_of_rows" = some (.ref a_order_of_rows)) (K_order_of_rows : PySem.W.keepIn K (.ref a_order_of_rows) = true) (B_order_of_rows : Binds K f_order_of_rows P_order_of_rows []) {a_order_of_texts : Addr} {f_order_of_texts : FuncData} (G_order_of_texts : FnOk P w K mg base (L2.CX P w) 2 a_order_of_texts f_order_of_texts P_order_of_texts (spG K ct 3 S_order_of_texts)) (M_order_of_texts : mg "order_of_texts" = some (.ref a_order_of_texts)) (K_order_of_texts : PySem.W.keepIn K (.ref a_order_of_texts) = true) (B_order_of_texts : Binds K f_order_of_texts P_order_of_texts []) {a_shape_of : Addr} {f_shape_of : FuncData} (G_shape_of : FnOk P w K mg base (L2.CX P w) 1 a_shape_of f_shape_of P_shape_of (spG K ct 2 S_shape_of)) (M_shape_of : mg "shape_of" = some (.ref a_shape_of)) (K_shape_of : PySem.W.keepIn K (.ref a_shape_of) = true) (B_shape_of : Binds K f_shape_of P_shape_of []) {a_sign_of : Addr} {f_sign_of : FuncData} (G_sign_of : FnOk P w K mg base (L2.CX P w) 1 a_sign_of f_sign_of P_sign_of (spG K ct 1 S_sign_of)) (M_sign_of : mg "sign_of" = some (.ref a_sign_of)) (K_sign_of : PySem.W.keepIn K (.ref a_sign_of) = true) (B_sign_of : Binds K f_sign_of P_sign_of []) :
    FnOk P w K mg base (L2.CX P w) (k + 1) a fd P_order (spG K ct 4 (U_order c_order c_order_of_heaps c_order_of_picks c_order_of_rows)) := by
  refine fn_ok (N := N_order) (ct := ct) F sc_order (by decide) (fun cdv A outer s H v E hr => ?_)
  have nd := sc_order.nd
  exact ss_cons (ss_set 4 (se_call G_measured (hr.mono (Nat.le_trans (by decide) hk)) (takes_of rfl rfl rfl rfl) rfl M_measured K_measured B_measured (sa_cons (se_var 0) (sa_cons (se_var 1) (sa_cons (se_var 2) (sa_nil)))) (lenA_cons (lenA_cons (lenA_cons (lenA_nil))))) nd)
    (ss_cons (ss_set 5 (se_call G_measured (hr.mono (Nat.le_trans (by decide) hk)) (takes_of rfl rfl rfl rfl) rfl M_measured K_measured B_measured (sa_cons (se_var 0) (sa_cons (se_var 1) (sa_cons (se_var 3) (sa_nil)))) (lenA_cons (lenA_cons (lenA_cons (lenA_nil))))) nd)
    (ss_cons (ss_if (st_cmp (o_ne (hu_big hr)) (se_var 4) (se_var 5)) (ss_one (ss_ret (se_call G_sign_of (hr.mono (Nat.le_trans (by decide) hk)) (takes_of rfl rfl rfl rfl) rfl M_sign_of K_sign_of B_sign_of (sa_cons (se_bin o_sub (se_var 4) (se_var 5)) (sa_nil)) (lenA_cons (lenA_nil))))) (ss_nil))
    (ss_cons (ss_if (st_cmp (o_eq (hu_big hr)) (se_ix (se_var 1) (se_int)) (se_str)) (ss_one (ss_ret (se_call G_sign_of (hr.mono (Nat.le_trans (by decide) hk)) (takes_of rfl rfl rfl rfl) rfl M_sign_of K_sign_of B_sign_of (sa_cons (se_bin o_sub (se_var 2) (se_var 3)) (sa_nil)) (lenA_cons (lenA_nil))))) (ss_nil))
    (ss_cons (ss_if (st_cmp (o_eq (hu_big hr)) (se_ix (se_var 1) (se_int)) (se_str)) (ss_one (ss_ret (se_call G_order_of_texts (hr.mono (Nat.le_trans (by decide) hk)) (takes_of rfl rfl rfl rfl) rfl M_order_of_texts K_order_of_texts B_order_of_texts (sa_cons (se_ix (se_var 1) (se_int)) (sa_cons (se_var 2) (sa_cons (se_var 3) (sa_nil)))) (lenA_cons (lenA_cons (lenA_cons (lenA_nil))))))) (ss_nil))
    (ss_cons (ss_if (st_cmp (o_eq (hu_big hr)) (se_ix (se_var 1) (se_int)) (se_str)) (ss_one (ss_ret (se_call G_order_of_rows (hr) (takes_of rfl rfl rfl rfl) rfl M_order_of_rows K_order_of_rows B_order_of_rows (sa_cons (se_var 0) (sa_cons (se_ix (se_var 1) (se_int)) (sa_cons (se_var 2) (sa_cons (se_var 3) (sa_nil))))) (lenA_cons (lenA_cons (lenA_cons (lenA_cons (lenA_nil)))))))) (ss_nil))
    (ss_cons (ss_if (st_cmp (o_eq (hu_big hr)) (se_ix (se_var 1) (se_int)) (se_str)) (ss_one (ss_ret (se_call G_order_of_picks (hr) (takes_of rfl rfl rfl rfl) rfl M_order_of_picks K_order_of_picks B_order_of_picks (sa_cons (se_var 0) (sa_cons (se_ix (se_var 1) (se_int)) (sa_cons (se_var 2) (sa_cons (se_var 3) (sa_nil))))) (lenA_cons (lenA_cons (lenA_cons (lenA_cons (lenA_nil)))))))) (ss_nil))
    (ss_cons (ss_if (st_cmp (o_eq (hu_big hr)) (se_ix (se_var 1) (se_int)) (se_str)) (ss_one (ss_ret (se_call G_order (hr) (takes_of rfl rfl rfl rfl) rfl M_order K_order B_order (sa_cons (se_var 0) (sa_cons (se_call G_shape_of (hr.mono (Nat.le_trans (by decide) hk)) (takes_of rfl rfl rfl rfl) rfl M_shape_of K_shape_of B_shape_of (sa_cons (se_var 0) (sa_cons (se_ix (se_var 1) (se_int)) (sa_nil))) (lenA_cons (lenA_cons (lenA_nil)))) (sa_cons (se_var 2) (sa_cons (se_var 3) (sa_nil))))) (lenA_cons (lenA_cons (lenA_cons (lenA_cons (lenA_nil)))))))) (ss_nil))
    (ss_cons (ss_if (PW.pt (sw_or (st_cmp (o_eq (hu_big hr)) (se_ix (se_var 1) (se_int)) (se_str)) (sw_or1 (st_cmp (o_eq (hu_big hr)) (se_ix (se_var 1) (se_int)) (se_str))))) (ss_one (ss_ret (se_call G_order_of_heaps (hr) (takes_of rfl rfl rfl rfl) rfl M_order_of_heaps K_order_of_heaps B_order_of_heaps (sa_cons (se_var 0) (sa_cons (se_ix (se_var 1) (se_int)) (sa_cons (se_var 2) (sa_cons (se_var 3) (sa_nil))))) (lenA_cons (lenA_cons (lenA_cons (lenA_cons (lenA_nil)))))))) (ss_nil))
    (ss_cons (ss_if (st_cmp (o_eq (hu_big hr)) (se_ix (se_var 1) (se_int)) (se_str)) (ss_one (ss_ret (se_call G_order (hr) (takes_of rfl rfl rfl rfl) rfl M_order K_order B_order (sa_cons (se_var 0) (sa_cons (se_ix (se_var 1) (se_int)) (sa_cons (se_ix (se_var 2) (se_int)) (sa_cons (se_ix (se_var 3) (se_int)) (sa_nil))))) (lenA_cons (lenA_cons (lenA_cons (lenA_cons (lenA_nil)))))))) (ss_nil))
    (ss_one (ss_ret (se_call G_order_of_rows (hr) (takes_of rfl rfl rfl rfl) rfl M_order_of_rows K_order_of_rows B_order_of_rows (sa_cons (se_var 0) (sa_cons (SF.fz (sf_lc [("thing", 6)] rfl nd (si_seq (se_var 2)) (blkOk_by (by change blkC N_order (defScope s_order) _ _ = true; decide +kernel)) (by decide) (fun _ _ _ _ _ => sg_name 6 nd) (fun _ _ _ _ _ => sts_nil) (fun _ _ _ _ _ => se_ix (se_var 1) (se_int)))) (sa_cons (se_var 2) (sa_cons (se_var 3) (sa_nil))))) (lenA_cons (lenA_cons (lenA_cons (lenA_cons (lenA_nil)))))))))))))))))
set_option maxHeartbeats 4000000 in
theorem ok_order_of_heaps {a : Addr} {fd : FuncData} (F : L2.Fun K "order_of_heaps" "order_of_heaps" s_order_of_heaps a fd) {k : Nat} (hk : 22 ≤ k) {c_order : List D → Sto → R D} {c_order_of_heaps : List D → Sto → R D} {c_order_of_picks : List D → Sto → R D} {c_order_of_rows : List D → Sto → R D} {a_heaps : Addr} {f_heaps : FuncData} (G_heaps : FnOk P w K mg base (L2.CX P w) 22 a_heaps f_heaps P_heaps (spG K ct 3 S_heaps)) (M_heaps : mg "heaps" = some (.ref a_heaps)) (K_heaps : PySem.W.keepIn K (.ref a_heaps) = true) (B_heaps : Binds K f_heaps P_heaps []) {a_order_of_rows : Addr} {f_order_of_rows : FuncData} (G_order_of_rows : FnOk P w K mg base (L2.CX P w) k a_order_of_rows f_order_of_rows P_order_of_rows (spG K ct 4 c_order_of_rows)) (M_order_of_rows : mg "order_of_rows" = some (.ref a_order_of_rows)) (K_order_of_rows : PySem.W.keepIn K (.ref a_order_of_rows) = true) (B_order_of_rows : Binds K f_order_of_rows P_order_of_rows []) {a_sign_of : Addr} {f_sign_of : FuncData} (G_sign_of : FnOk P w K mg base (L2.CX P w) 1 a_sign_of f_sign_of P_sign_of (spG K ct 1 S_sign_of)) (M_sign_of : mg "sign_of" = some (.ref a_sign_of)) (K_sign_of : PySem.W.keepIn K (.ref a_sign_of) = true) (B_sign_of : Binds K f_sign_of P_sign_of []) (Z_len : mg "len" = none) (Z_set : mg "set" = none) (Z_sorted : mg "sorted" = none) :
    FnOk P w K mg base (L2.CX P w) (k + 1) a fd P_order_of_heaps (spG K ct 4 (U_order_of_heaps c_order c_order_of_heaps c_order_of_picks c_order_of_rows)) := by
  refine fn_ok (N := N_order_of_heaps) (ct := ct) F sc_order_of_heaps (by decide) (fun cdv A outer s H v E hr => ?_)
  have nd := sc_order_of_heaps.nd
  exact ss_cons (ss_set 4 (se_call G_heaps (hr.mono (Nat.le_trans (by decide) hk)) (takes_of rfl rfl rfl rfl) rfl M_heaps K_heaps B_heaps (sa_cons (se_var 0) (sa_cons (se_var 1) (sa_cons (se_var 2) (sa_nil)))) (lenA_cons (lenA_cons (lenA_cons (lenA_nil))))) nd)
    (ss_cons (ss_set 5 (se_call G_heaps (hr.mono (Nat.le_trans (by decide) hk)) (takes_of rfl rfl rfl rfl) rfl M_heaps K_heaps B_heaps (sa_cons (se_var 0) (sa_cons (se_var 1) (sa_cons (se_var 3) (sa_nil)))) (lenA_cons (lenA_cons (lenA_cons (lenA_nil))))) nd)
    (ss_cons (ss_for (passes_of rfl) rfl (si_seq (se_sortU rfl Z_sorted rfl Z_set (se_var 4) (se_var 5))) (sg_name 6 nd) (ss_cons (ss_set 7 (se_dget2 (Nat.lt_trans (Nat.add_lt_add_left (by decide) _) (hu_big hr)) (se_var 4) (se_var 6) (SF.fz (sf_lst (sa_nil)))) nd)
    (ss_cons (ss_set 8 (se_dget2 (Nat.lt_trans (Nat.add_lt_add_left (by decide) _) (hu_big hr)) (se_var 5) (se_var 6) (SF.fz (sf_lst (sa_nil)))) nd)
    (ss_cons (ss_if (st_cmp (o_ne (hu_big hr)) (se_callB (b_len) rfl Z_len (by decide +kernel) (sa_cons (se_var 7) (sa_nil))) (se_callB (b_len) rfl Z_len (by decide +kernel) (sa_cons (se_var 8) (sa_nil)))) (ss_one (ss_ret (se_call G_sign_of (hr.mono (Nat.le_trans (by decide) hk)) (takes_of rfl rfl rfl rfl) rfl M_sign_of K_sign_of B_sign_of (sa_cons (se_bin o_sub (se_callB (b_len) rfl Z_len (by decide +kernel) (sa_cons (se_var 7) (sa_nil))) (se_callB (b_len) rfl Z_len (by decide +kernel) (sa_cons (se_var 8) (sa_nil)))) (sa_nil)) (lenA_cons (lenA_nil))))) (ss_nil))
    (ss_cons (ss_set 9 (se_call G_order_of_rows (hr) (takes_of rfl rfl rfl rfl) rfl M_order_of_rows K_order_of_rows B_order_of_rows (sa_cons (se_var 0) (sa_cons (SF.fz (sf_lcO [("thing", 10)] rfl nd (si_seqO (se_var 7)) (blkOk_by (by change blkC N_order_of_heaps (defScope s_order_of_heaps) _ _ = true; decide +kernel)) (by decide) (fun _ _ _ _ _ => sg_name 10 nd) (fun _ _ _ _ _ => sts_nil) (fun _ _ _ _ _ => se_var 1))) (sa_cons (se_revA (se_var 7)) (sa_cons (se_revA (se_var 8)) (sa_nil))))) (lenA_cons (lenA_cons (lenA_cons (lenA_cons (lenA_nil)))))) nd)
    (ss_one (ss_if (st_cmp (o_ne (hu_big hr)) (se_var 9) (se_int)) (ss_one (ss_ret (se_var 9))) (ss_nil))))))))
    (ss_one (ss_ret (se_int)))))
set_option maxHeartbeats 4000000 in
theorem ok_order_of_picks {a : Addr} {fd : FuncData} (F : L2.Fun K "order_of_picks" "order_of_picks" s_order_of_picks a fd) {k : Nat} (hk : 22 ≤ k) {c_order : List D → Sto → R D} {c_order_of_heaps : List D → Sto → R D} {c_order_of_picks : List D → Sto → R D} {c_order_of_rows : List D → Sto → R D} {a_order : Addr} {f_order : FuncData} (G_order : FnOk P w K mg base (L2.CX P w) k a_order f_order P_order (spG K ct 4 c_order)) (M_order : mg "order" = some (.ref a_order)) (K_order : PySem.W.keepIn K (.ref a_order) = true) (B_order : Binds K f_order P_order []) {a_place_of : Addr} {f_place_of : FuncData} (G_place_of : FnOk P w K mg base (L2.CX P w) 1 a_place_of f_place_of P_place_of (spG K ct 2 S_place_of)) (M_place_of : mg "place_of" = some (.ref a_place_of)) (K_place_of : PySem.W.keepIn K (.ref a_place_of) = true) (B_place_of : Binds K f_place_of P_place_of []) {a_sign_of : Addr} {f_sign_of : FuncData} (G_sign_of : FnOk P w K mg base (L2.CX P w) 1 a_sign_of f_sign_of P_sign_of (spG K ct 1 S_sign_of)) (M_sign_of : mg "sign_of" = some (.ref a_sign_of)) (K_sign_of : PySem.W.keepIn K (.ref a_sign_of) = true) (B_sign_of : Binds K f_sign_of P_sign_of []) :
    FnOk P w K mg base (L2.CX P w) (k + 1) a fd P_order_of_picks (spG K ct 4 (U_order_of_picks c_order c_order_of_heaps c_order_of_picks c_order_of_rows)) := by
  refine fn_ok (N := N_order_of_picks) (ct := ct) F sc_order_of_picks (by decide) (fun cdv A outer s H v E hr => ?_)
  have nd := sc_order_of_picks.nd
  exact ss_cons (ss_set 4 (se_call G_place_of (hr.mono (Nat.le_trans (by decide) hk)) (takes_of rfl rfl rfl rfl) rfl M_place_of K_place_of B_place_of (sa_cons (se_var 1) (sa_cons (se_ix (se_var 2) (se_int)) (sa_nil))) (lenA_cons (lenA_cons (lenA_nil)))) nd)
    (ss_cons (ss_set 5 (se_call G_place_of (hr.mono (Nat.le_trans (by decide) hk)) (takes_of rfl rfl rfl rfl) rfl M_place_of K_place_of B_place_of (sa_cons (se_var 1) (sa_cons (se_ix (se_var 3) (se_int)) (sa_nil))) (lenA_cons (lenA_cons (lenA_nil)))) nd)
    (ss_cons (ss_if (st_cmp (o_ne (hu_big hr)) (se_var 4) (se_var 5)) (ss_one (ss_ret (se_call G_sign_of (hr.mono (Nat.le_trans (by decide) hk)) (takes_of rfl rfl rfl rfl) rfl M_sign_of K_sign_of B_sign_of (sa_cons (se_bin o_sub (se_var 4) (se_var 5)) (sa_nil)) (lenA_cons (lenA_nil))))) (ss_nil))
    (ss_one (ss_ret (se_call G_order (hr) (takes_of rfl rfl rfl rfl) rfl M_order K_order B_order (sa_cons (se_var 0) (sa_cons (se_ix (se_ix (se_var 1) (se_var 4)) (se_int)) (sa_cons (se_ix (se_var 2) (se_int)) (sa_cons (se_ix (se_var 3) (se_int)) (sa_nil))))) (lenA_cons (lenA_cons (lenA_cons (lenA_cons (lenA_nil))))))))))
set_option maxHeartbeats 4000000 in
theorem ok_order_of_rows {a : Addr} {fd : FuncData} (F : L2.Fun K "order_of_rows" "order_of_rows" s_order_of_rows a fd) {k : Nat} (hk : 22 ≤ k) {c_order : List D → Sto → R D} {c_order_of_heaps : List D → Sto → R D} {c_order_of_picks : List D → Sto → R D} {c_order_of_rows : List D → Sto → R D} {a_order : Addr} {f_order : FuncData} (G_order : FnOk P w K mg base (L2.CX P w) k a_order f_order P_order (spG K ct 4 c_order)) (M_order : mg "order" = some (.ref a_order)) (K_order : PySem.W.keepIn K (.ref a_order) = true) (B_order : Binds K f_order P_order []) (Z_len : mg "len" = none) (Z_min : mg "min" = none) (Z_range : mg "range" = none) :
    FnOk P w K mg base (L2.CX P w) (k + 1) a fd P_order_of_rows (spG K ct 4 (U_order_of_rows c_order c_order_of_heaps c_order_of_picks c_order_of_rows)) := by
  refine fn_ok (N := N_order_of_rows) (ct := ct) F sc_order_of_rows (by decide) (fun cdv A outer s H v E hr => ?_)
  have nd := sc_order_of_rows.nd
  exact ss_cons (ss_for (passes_of rfl) rfl (si_range1 rfl Z_range (sa_cons (se_callB (b_min2 rfl) rfl Z_min (by decide +kernel) (sa_cons (se_callB (b_len) rfl Z_len (by decide +kernel) (sa_cons (se_var 2) (sa_nil))) (sa_cons (se_callB (b_len) rfl Z_len (by decide +kernel) (sa_cons (se_var 3) (sa_nil))) (sa_nil)))) (sa_nil))) (sg_name 4 nd) (ss_cons (ss_set 5 (se_call G_order (hr) (takes_of rfl rfl rfl rfl) rfl M_order K_order B_order (sa_cons (se_var 0) (sa_cons (se_ix (se_var 1) (se_var 4)) (sa_cons (se_ix (se_var 2) (se_var 4)) (sa_cons (se_ix (se_var 3) (se_var 4)) (sa_nil))))) (lenA_cons (lenA_cons (lenA_cons (lenA_cons (lenA_nil)))))) nd)
    (ss_one (ss_if (st_cmp (o_ne (hu_big hr)) (se_var 5) (se_int)) (ss_one (ss_ret (se_var 5))) (ss_nil)))))
    (ss_one (ss_ret (se_int)))
set_option maxHeartbeats 4000000 in
theorem ok_rises {a : Addr} {fd : FuncData} (F : L2.Fun K "rises" "rises" s_rises a fd) {a_order : Addr} {f_order : FuncData} (G_order : FnOk P w K mg base (L2.CX P w) 42 a_order f_order P_order (spG K ct 4 (S_order 20))) (M_order : mg "order" = some (.ref a_order)) (K_order : PySem.W.keepIn K (.ref a_order) = true) (B_order : Binds K f_order P_order []) (Z_len : mg "len" = none) (Z_range : mg "range" = none) :
    FnOk P w K mg base (L2.CX P w) 43 a fd P_rises (spG K ct 4 S_rises) := by
  refine fn_ok (N := N_rises) (ct := ct) F sc_rises (by decide) (fun cdv A outer s H v E hr => ?_)
  have nd := sc_rises.nd
  exact ss_cons (ss_for (passes_of rfl) rfl (si_range2 rfl Z_range (sa_cons (se_int) (sa_cons (se_callB (b_len) rfl Z_len (by decide +kernel) (sa_cons (se_var 2) (sa_nil))) (sa_nil)))) (sg_name 4 nd) (ss_one (ss_if (st_cmp o_gt (se_call G_order (hr.mono (by decide)) (takes_of rfl rfl rfl rfl) rfl M_order K_order B_order (sa_cons (se_var 0) (sa_cons (se_var 1) (sa_cons (se_ix (se_var 2) (se_bin o_sub (se_var 4) (se_int))) (sa_cons (se_ix (se_var 2) (se_var 4)) (sa_nil))))) (lenA_cons (lenA_cons (lenA_cons (lenA_cons (lenA_nil)))))) (se_var 3)) (ss_one (ss_ret (se_bl))) (ss_nil))))
    (ss_one (ss_ret (se_bl)))
set_option maxHeartbeats 4000000 in
theorem ok_fits {a : Addr} {fd : FuncData} (F : L2.Fun K "fits" "fits" s_fits a fd) {k : Nat} (hk : 43 ≤ k) {c_fits : List D → Sto → R D} {c_fits_branch : List D → Sto → R D} {c_fits_list : List D → Sto → R D} {c_fits_parts : List D → Sto → R D} {a_fits : Addr} {f_fits : FuncData} (G_fits : FnOk P w K mg base (L2.CX P w) k a_fits f_fits P_fits (spG K ct 3 c_fits)) (M_fits : mg "fits" = some (.ref a_fits)) (K_fits : PySem.W.keepIn K (.ref a_fits) = true) (B_fits : Binds K f_fits P_fits []) {a_fits_branch : Addr} {f_fits_branch : FuncData} (G_fits_branch : FnOk P w K mg base (L2.CX P w) k a_fits_branch f_fits_branch P_fits_branch (spG K ct 3 c_fits_branch)) (M_fits_branch : mg "fits_branch" = some (.ref a_fits_branch)) (K_fits_branch : PySem.W.keepIn K (.ref a_fits_branch) = true) (B_fits_branch : Binds K f_fits_branch P_fits_branch []) {a_fits_list : Addr} {f_fits_list : FuncData} (G_fits_list : FnOk P w K mg base (L2.CX P w) k a_fits_list f_fits_list P_fits_list (spG K ct 3 c_fits_list)) (M_fits_list : mg "fits_list" = some (.ref a_fits_list)) (K_fits_list : PySem.W.keepIn K (.ref a_fits_list) = true) (B_fits_list : Binds K f_fits_list P_fits_list []) {a_fits_parts : Addr} {f_fits_parts : FuncData} (G_fits_parts : FnOk P w K mg base (L2.CX P w) k a_fits_parts f_fits_parts P_fits_parts (spG K ct 3 c_fits_parts)) (M_fits_parts : mg "fits_parts" = some (.ref a_fits_parts)) (K_fits_parts : PySem.W.keepIn K (.ref a_fits_parts) = true) (B_fits_parts : Binds K f_fits_parts P_fits_parts []) {a_shape_of : Addr} {f_shape_of : FuncData} (G_shape_of : FnOk P w K mg base (L2.CX P w) 1 a_shape_of f_shape_of P_shape_of (spG K ct 2 S_shape_of)) (M_shape_of : mg "shape_of" = some (.ref a_shape_of)) (K_shape_of : PySem.W.keepIn K (.ref a_shape_of) = true) (B_shape_of : Binds K f_shape_of P_shape_of []) (Z_all : mg "all" = none) (Z_bool : mg "bool" = none) (Z_int : mg "int" = none) (Z_isinstance : mg "isinstance" = none) (Z_list : mg "list" = none) (Z_str : mg "str" = none) (Z_tuple : mg "tuple" = none) :
    FnOk P w K mg base (L2.CX P w) (k + 1) a fd P_fits (spG K ct 3 (U_fits c_fits c_fits_branch c_fits_list c_fits_parts)) := by
  refine fn_ok (N := N_fits) (ct := ct) F sc_fits (by decide) (fun cdv A outer s H v E hr => ?_)
  have nd := sc_fits.nd
  exact ss_cons (ss_if (st_cmp (o_eq (hu_big hr)) (se_ix (se_var 1) (se_int)) (se_str)) (ss_one (ss_ret (se_and (se_isi (n := "int") (se_var 2) rfl Z_isinstance rfl Z_int (by decide +kernel)) (se_and (se_nt (se_isi (n := "bool") (se_var 2) rfl Z_isinstance rfl Z_bool (by decide +kernel))) (se_one (se_chain o_le o_le (se_ix (se_var 1) (se_int)) (se_var 2) (se_ix (se_var 1) (se_int)))))))) (ss_nil))
    (ss_cons (ss_if (st_cmp (o_eq (hu_big hr)) (se_ix (se_var 1) (se_int)) (se_str)) (ss_one (ss_ret (se_and (se_isi (n := "str") (se_var 2) rfl Z_isinstance rfl Z_str (by decide +kernel)) (se_one (se_callB (b_all rfl) rfl Z_all (by decide +kernel) (sa_cons (SF.fz (sf_lc [("sign", 3)] rfl nd (si_seq (se_var 2)) (blkOk_by (by change blkC N_fits (defScope s_fits) _ _ = true; decide +kernel)) (by decide) (fun _ _ _ _ _ => sg_name 3 nd) (fun _ _ _ _ _ => sts_nil) (fun _ _ _ _ _ => se_cmp o_in (se_var 3) (se_ix (se_var 1) (se_int))))) (sa_nil))))))) (ss_nil))
    (ss_cons (ss_if (st_cmp (o_eq (hu_big hr)) (se_ix (se_var 1) (se_int)) (se_str)) (ss_one (ss_ret (se_and (se_isi (n := "tuple") (se_var 2) rfl Z_isinstance rfl Z_tuple (by decide +kernel)) (se_one (se_call G_fits_parts (hr) (takes_of rfl rfl rfl rfl) rfl M_fits_parts K_fits_parts B_fits_parts (sa_cons (se_var 0) (sa_cons (se_ix (se_var 1) (se_int)) (sa_cons (se_var 2) (sa_nil)))) (lenA_cons (lenA_cons (lenA_cons (lenA_nil))))))))) (ss_nil))
    (ss_cons (ss_if (st_cmp (o_eq (hu_big hr)) (se_ix (se_var 1) (se_int)) (se_str)) (ss_one (ss_ret (se_and (se_isi (n := "tuple") (se_var 2) rfl Z_isinstance rfl Z_tuple (by decide +kernel)) (se_one (se_call G_fits_branch (hr) (takes_of rfl rfl rfl rfl) rfl M_fits_branch K_fits_branch B_fits_branch (sa_cons (se_var 0) (sa_cons (se_ix (se_var 1) (se_int)) (sa_cons (se_var 2) (sa_nil)))) (lenA_cons (lenA_cons (lenA_cons (lenA_nil))))))))) (ss_nil))
    (ss_cons (ss_if (st_cmp (o_eq (hu_big hr)) (se_ix (se_var 1) (se_int)) (se_str)) (ss_one (ss_ret (se_call G_fits (hr) (takes_of rfl rfl rfl rfl) rfl M_fits K_fits B_fits (sa_cons (se_var 0) (sa_cons (se_call G_shape_of (hr.mono (Nat.le_trans (by decide) hk)) (takes_of rfl rfl rfl rfl) rfl M_shape_of K_shape_of B_shape_of (sa_cons (se_var 0) (sa_cons (se_ix (se_var 1) (se_int)) (sa_nil))) (lenA_cons (lenA_cons (lenA_nil)))) (sa_cons (se_var 2) (sa_nil)))) (lenA_cons (lenA_cons (lenA_cons (lenA_nil))))))) (ss_nil))
    (ss_one (ss_ret (se_and (se_isi (n := "list") (se_var 2) rfl Z_isinstance rfl Z_list (by decide +kernel)) (se_one (se_call G_fits_list (hr) (takes_of rfl rfl rfl rfl) rfl M_fits_list K_fits_list B_fits_list (sa_cons (se_var 0) (sa_cons (se_var 1) (sa_cons (se_var 2) (sa_nil)))) (lenA_cons (lenA_cons (lenA_cons (lenA_nil)))))))))))))
set_option maxHeartbeats 4000000 in
theorem ok_fits_branch {a : Addr} {fd : FuncData} (F : L2.Fun K "fits_branch" "fits_branch" s_fits_branch a fd) {k : Nat} (hk : 43 ≤ k) {c_fits : List D → Sto → R D} {c_fits_branch : List D → Sto → R D} {c_fits_list : List D → Sto → R D} {c_fits_parts : List D → Sto → R D} {a_fits : Addr} {f_fits : FuncData} (G_fits : FnOk P w K mg base (L2.CX P w) k a_fits f_fits P_fits (spG K ct 3 c_fits)) (M_fits : mg "fits" = some (.ref a_fits)) (K_fits : PySem.W.keepIn K (.ref a_fits) = true) (B_fits : Binds K f_fits P_fits []) {a_place_of : Addr} {f_place_of : FuncData} (G_place_of : FnOk P w K mg base (L2.CX P w) 1 a_place_of f_place_of P_place_of (spG K ct 2 S_place_of)) (M_place_of : mg "place_of" = some (.ref a_place_of)) (K_place_of : PySem.W.keepIn K (.ref a_place_of) = true) (B_place_of : Binds K f_place_of P_place_of []) (Z_isinstance : mg "isinstance" = none) (Z_len : mg "len" = none) (Z_str : mg "str" = none) :
    FnOk P w K mg base (L2.CX P w) (k + 1) a fd P_fits_branch (spG K ct 3 (U_fits_branch c_fits c_fits_branch c_fits_list c_fits_parts)) := by
  refine fn_ok (N := N_fits_branch) (ct := ct) F sc_fits_branch (by decide) (fun cdv A outer s H v E hr => ?_)
  have nd := sc_fits_branch.nd
  exact ss_cons (ss_if (PW.pt (sw_or (st_cmp (o_ne (hu_big hr)) (se_callB (b_len) rfl Z_len (by decide +kernel) (sa_cons (se_var 2) (sa_nil))) (se_int)) (sw_or1 (st_not (st_val (se_isi (n := "str") (se_ix (se_var 2) (se_int)) rfl Z_isinstance rfl Z_str (by decide +kernel))))))) (ss_one (ss_ret (se_bl))) (ss_nil))
    (ss_cons (ss_set 3 (se_call G_place_of (hr.mono (Nat.le_trans (by decide) hk)) (takes_of rfl rfl rfl rfl) rfl M_place_of K_place_of B_place_of (sa_cons (se_var 1) (sa_cons (se_ix (se_var 2) (se_int)) (sa_nil))) (lenA_cons (lenA_cons (lenA_nil)))) nd)
    (ss_one (ss_ret (se_and (se_cmp o_ge (se_var 3) (se_int)) (se_one (se_call G_fits (hr) (takes_of rfl rfl rfl rfl) rfl M_fits K_fits B_fits (sa_cons (se_var 0) (sa_cons (se_ix (se_ix (se_var 1) (se_var 3)) (se_int)) (sa_cons (se_ix (se_var 2) (se_int)) (sa_nil)))) (lenA_cons (lenA_cons (lenA_cons (lenA_nil))))))))))
set_option maxHeartbeats 4000000 in
theorem ok_fits_list {a : Addr} {fd : FuncData} (F : L2.Fun K "fits_list" "fits_list" s_fits_list a fd) {k : Nat} (hk : 43 ≤ k) {c_fits : List D → Sto → R D} {c_fits_branch : List D → Sto → R D} {c_fits_list : List D → Sto → R D} {c_fits_parts : List D → Sto → R D} {a_all_alike : Addr} {f_all_alike : FuncData} (G_all_alike : FnOk P w K mg base (L2.CX P w) 1 a_all_alike f_all_alike P_all_alike (spG K ct 2 S_all_alike)) (M_all_alike : mg "all_alike" = some (.ref a_all_alike)) (K_all_alike : PySem.W.keepIn K (.ref a_all_alike) = true) (B_all_alike : Binds K f_all_alike P_all_alike []) {a_fits : Addr} {f_fits : FuncData} (G_fits : FnOk P w K mg base (L2.CX P w) k a_fits f_fits P_fits (spG K ct 3 c_fits)) (M_fits : mg "fits" = some (.ref a_fits)) (K_fits : PySem.W.keepIn K (.ref a_fits) = true) (B_fits : Binds K f_fits P_fits []) {a_rises : Addr} {f_rises : FuncData} (G_rises : FnOk P w K mg base (L2.CX P w) 43 a_rises f_rises P_rises (spG K ct 4 S_rises)) (M_rises : mg "rises" = some (.ref a_rises)) (K_rises : PySem.W.keepIn K (.ref a_rises) = true) (B_rises : Binds K f_rises P_rises []) :
    FnOk P w K mg base (L2.CX P w) (k + 1) a fd P_fits_list (spG K ct 3 (U_fits_list c_fits c_fits_branch c_fits_list c_fits_parts)) := by
  refine fn_ok (N := N_fits_list) (ct := ct) F sc_fits_list (by decide) (fun cdv A outer s H v E hr => ?_)
  have nd := sc_fits_list.nd
  exact ss_cons (ss_for (passes_of rfl) rfl (si_seq (se_var 2)) (sg_name 3 nd) (ss_one (ss_if (st_not (st_val (se_call G_fits (hr) (takes_of rfl rfl rfl rfl) rfl M_fits K_fits B_fits (sa_cons (se_var 0) (sa_cons (se_ix (se_var 1) (se_int)) (sa_cons (se_var 3) (sa_nil)))) (lenA_cons (lenA_cons (lenA_cons (lenA_nil))))))) (ss_one (ss_ret (se_bl))) (ss_nil))))
    (ss_cons (ss_if (st_cmp (o_eq (hu_big hr)) (se_ix (se_var 1) (se_int)) (se_str)) (ss_one (ss_ret (se_call G_rises (hr.mono (Nat.le_trans (by decide) hk)) (takes_of rfl rfl rfl rfl) rfl M_rises K_rises B_rises (sa_cons (se_var 0) (sa_cons (se_ix (se_var 1) (se_int)) (sa_cons (se_var 2) (sa_cons (se_int) (sa_nil))))) (lenA_cons (lenA_cons (lenA_cons (lenA_cons (lenA_nil)))))))) (ss_nil))
    (ss_cons (ss_if (st_cmp (o_eq (hu_big hr)) (se_ix (se_var 1) (se_int)) (se_str)) (ss_one (ss_ret (se_call G_rises (hr.mono (Nat.le_trans (by decide) hk)) (takes_of rfl rfl rfl rfl) rfl M_rises K_rises B_rises (sa_cons (se_var 0) (sa_cons (se_ix (se_var 1) (se_int)) (sa_cons (se_var 2) (sa_cons (se_un o_neg (se_int)) (sa_nil))))) (lenA_cons (lenA_cons (lenA_cons (lenA_cons (lenA_nil)))))))) (ss_nil))
    (ss_cons (ss_if (st_cmp (o_eq (hu_big hr)) (se_ix (se_var 1) (se_int)) (se_str)) (ss_one (ss_ret (se_call G_all_alike (hr.mono (Nat.le_trans (by decide) hk)) (takes_of rfl rfl rfl rfl) rfl M_all_alike K_all_alike B_all_alike (sa_cons (se_ix (se_var 1) (se_int)) (sa_cons (se_var 2) (sa_nil))) (lenA_cons (lenA_cons (lenA_nil)))))) (ss_nil))
    (ss_one (ss_ret (se_bl))))))
set_option maxHeartbeats 4000000 in
theorem ok_fits_parts {a : Addr} {fd : FuncData} (F : L2.Fun K "fits_parts" "fits_parts" s_fits_parts a fd) {k : Nat} (hk : 43 ≤ k) {c_fits : List D → Sto → R D} {c_fits_branch : List D → Sto → R D} {c_fits_list : List D → Sto → R D} {c_fits_parts : List D → Sto → R D} {a_fits : Addr} {f_fits : FuncData} (G_fits : FnOk P w K mg base (L2.CX P w) k a_fits f_fits P_fits (spG K ct 3 c_fits)) (M_fits : mg "fits" = some (.ref a_fits)) (K_fits : PySem.W.keepIn K (.ref a_fits) = true) (B_fits : Binds K f_fits P_fits []) (Z_len : mg "len" = none) (Z_zip : mg "zip" = none) :
    FnOk P w K mg base (L2.CX P w) (k + 1) a fd P_fits_parts (spG K ct 3 (U_fits_parts c_fits c_fits_branch c_fits_list c_fits_parts)) := by
  refine fn_ok (N := N_fits_parts) (ct := ct) F sc_fits_parts (by decide) (fun cdv A outer s H v E hr => ?_)
  have nd := sc_fits_parts.nd
  exact ss_cons (ss_if (st_cmp (o_ne (hu_big hr)) (se_callB (b_len) rfl Z_len (by decide +kernel) (sa_cons (se_var 1) (sa_nil))) (se_callB (b_len) rfl Z_len (by decide +kernel) (sa_cons (se_var 2) (sa_nil)))) (ss_one (ss_ret (se_bl))) (ss_nil))
    (ss_cons (ss_for (passes_of rfl) rfl (si_zip rfl Z_zip (sa_cons (se_var 1) (sa_cons (se_var 2) (sa_nil)))) (sg_tup rfl (sgs_cons (sg_name 3 nd) (sgs_cons (sg_name 4 nd) (sgs_nil)))) (ss_one (ss_if (st_not (st_val (se_call G_fits (hr) (takes_of rfl rfl rfl rfl) rfl M_fits K_fits B_fits (sa_cons (se_var 0) (sa_cons (se_var 3) (sa_cons (se_var 4) (sa_nil)))) (lenA_cons (lenA_cons (lenA_cons (lenA_nil))))))) (ss_one (ss_ret (se_bl))) (ss_nil))))
    (ss_one (ss_ret (se_bl))))
set_option maxHeartbeats 4000000 in
theorem ok_compared {a : Addr} {fd : FuncData} (F : L2.Fun K "compared" "compared" s_compared a fd) {a_fits : Addr} {f_fits : FuncData} (G_fits : FnOk P w K mg base (L2.CX P w) 63 a_fits f_fits P_fits (spG K ct 3 (S_fits 20))) (M_fits : mg "fits" = some (.ref a_fits)) (K_fits : PySem.W.keepIn K (.ref a_fits) = true) (B_fits : Binds K f_fits P_fits []) {a_order : Addr} {f_order : FuncData} (G_order : FnOk P w K mg base (L2.CX P w) 42 a_order f_order P_order (spG K ct 4 (S_order 20))) (M_order : mg "order" = some (.ref a_order)) (K_order : PySem.W.keepIn K (.ref a_order) = true) (B_order : Binds K f_order P_order []) {fi_NoValue : Addr} {fd_NoValue : FuncData} (OX_NoValue : OexC K (ct "NoValue")) (iC_NoValue : PySem.W.findIn K (.ref (ct "NoValue")) "__init__" = some (some (.ref fi_NoValue))) (tI_NoValue : PySem.W.typeIn K (.ref fi_NoValue) = some (.type "function")) (GI_NoValue : FnOk P w K mg base (L2.CX P w) 1 fi_NoValue fd_NoValue PI_NoValue (spXI K (ct "NoValue") ["value"])) (BI_NoValue : Binds K fd_NoValue PI_NoValue []) (MC_NoValue : mg "NoValue" = some (.ref (ct "NoValue"))) :
    FnOk P w K mg base (L2.CX P w) 64 a fd P_compared (spG K ct 4 S_compared) := by
  refine fn_ok (N := N_compared) (ct := ct) F sc_compared (by decide) (fun cdv A outer s H v E hr => ?_)
  have nd := sc_compared.nd
  exact ss_cons (ss_for (passes_of rfl) rfl (si_seq (SF.fz (sf_lst (sa_cons (se_var 2) (sa_cons (se_var 3) (sa_nil)))))) (sg_name 4 nd) (ss_one (ss_if (st_not (st_val (se_call G_fits (hr.mono (by decide)) (takes_of rfl rfl rfl rfl) rfl M_fits K_fits B_fits (sa_cons (se_var 0) (sa_cons (se_var 1) (sa_cons (se_var 4) (sa_nil)))) (lenA_cons (lenA_cons (lenA_cons (lenA_nil))))))) (ss_one (ss_raiseF (c := "NoValue") (ns := ["value"]) rfl rfl (takes_of rfl rfl rfl rfl) OX_NoValue iC_NoValue tI_NoValue GI_NoValue (hr.mono (by decide)) BI_NoValue rfl MC_NoValue (sa_cons (se_str) (sa_cons (se_var 4) (sa_nil))))) (ss_nil))))
    (ss_one (ss_ret (se_call G_order (hr.mono (by decide)) (takes_of rfl rfl rfl rfl) rfl M_order K_order B_order (sa_cons (se_var 0) (sa_cons (se_var 1) (sa_cons (se_var 2) (sa_cons (se_var 3) (sa_nil))))) (lenA_cons (lenA_cons (lenA_cons (lenA_cons (lenA_nil))))))))
set_option maxHeartbeats 4000000 in
theorem ok_l_asked {a : Addr} {fd : FuncData} (F : L2.Fun K "_law_asked" "_law_asked" s_l_asked a fd) {a_l_whole : Addr} {f_l_whole : FuncData} (G_l_whole : FnOk P w K mg base (L2.CX P w) 1 a_l_whole f_l_whole P_l_whole (spG K ct 1 S_l_whole)) (M_l_whole : mg "_law_whole" = some (.ref a_l_whole)) (K_l_whole : PySem.W.keepIn K (.ref a_l_whole) = true) (B_l_whole : Binds K f_l_whole P_l_whole []) {a_compared : Addr} {f_compared : FuncData} (G_compared : FnOk P w K mg base (L2.CX P w) 64 a_compared f_compared P_compared (spG K ct 4 S_compared)) (M_compared : mg "compared" = some (.ref a_compared)) (K_compared : PySem.W.keepIn K (.ref a_compared) = true) (B_compared : Binds K f_compared P_compared []) (Z_list : mg "list" = none) :
    FnOk P w K mg base (L2.CX P w) 65 a fd P_l_asked (spG K ct 4 S_l_asked) := by
  refine fn_ok (N := N_l_asked) (ct := ct) F sc_l_asked (by decide) (fun cdv A outer s H v E hr => ?_)
  have nd := sc_l_asked.nd
  exact ss_cons (ss_set 4 (SF.fz (sf_lst (sa_cons (se_callT (b_list rfl) rfl Z_list (by decide +kernel) (sa_cons (se_var 1) (sa_nil))) (sa_cons (se_callT (b_list rfl) rfl Z_list (by decide +kernel) (sa_cons (se_var 2) (sa_nil))) (sa_nil))))) nd)
    (ss_cons (ss_set 5 (se_call G_compared (hr.mono (by decide)) (takes_of rfl rfl rfl rfl) rfl M_compared K_compared B_compared (sa_cons (SF.fz (sf_lst (sa_nil))) (sa_cons (se_var 0) (sa_cons (se_ix (se_var 4) (se_int)) (sa_cons (se_ix (se_var 4) (se_int)) (sa_nil))))) (lenA_cons (lenA_cons (lenA_cons (lenA_cons (lenA_nil)))))) nd)
    (ss_one (ss_ret (se_and (se_call G_l_whole (hr.mono (by decide)) (takes_of rfl rfl rfl rfl) rfl M_l_whole K_l_whole B_l_whole (sa_cons (se_var 5) (sa_nil)) (lenA_cons (lenA_nil))) (se_and (se_cmp (o_eq (hu_big hr)) (se_var 5) (se_var 3)) (se_one (se_cmp (o_eq (hu_big hr)) (se_var 4) (SF.fz (sf_lst (sa_cons (se_var 1) (sa_cons (se_var 2) (sa_nil))))))))))))
set_option maxHeartbeats 4000000 in
theorem ok_l_cell_at {a : Addr} {fd : FuncData} (F : L2.Fun K "_law_cell_at" "_law_cell_at" s_l_cell_at a fd) (Z_len : mg "len" = none) :
    FnOk P w K mg base (L2.CX P w) 1 a fd P_l_cell_at (spG K ct 2 S_l_cell_at) := by
  refine fn_ok (N := N_l_cell_at) (ct := ct) F sc_l_cell_at (by decide) (fun cdv A outer s H v E hr => ?_)
  have nd := sc_l_cell_at.nd
  exact ss_cons (ss_if (st_cmp o_lt (se_var 1) (se_callB (b_len) rfl Z_len (by decide +kernel) (sa_cons (se_var 0) (sa_nil)))) (ss_one (ss_ret (se_ix (se_var 0) (se_var 1)))) (ss_nil))
    (ss_one (ss_ret (se_int)))
set_option maxHeartbeats 4000000 in
theorem ok_l_due {a : Addr} {fd : FuncData} (F : L2.Fun K "_law_due" "_law_due" s_l_due a fd) (Z_int : mg "int" = none) (Z_len : mg "len" = none) (Z_range : mg "range" = none) (Z_sum : mg "sum" = none) (Z_zip : mg "zip" = none) :
    FnOk P w K mg base (L2.CX P w) 1 a fd P_l_due (spG K ct 2 S_l_due) := by
  refine fn_ok (N := N_l_due) (ct := ct) F sc_l_due (by decide) (fun cdv A outer s H v E hr => ?_)
  have nd := sc_l_due.nd
  exact ss_cons (ss_set 2 (se_callB (b_sumA rfl) rfl Z_sum (by decide +kernel) (sa_cons (SF.fz (sf_lc [("_law_size", 4), ("_law_place", 9)] rfl nd (si_seq (se_var 0)) (blkOk_by (by change blkC N_l_due (defScope s_l_due) _ _ = true; decide +kernel)) (by decide) (fun _ _ _ _ _ => sg_tup rfl (sgs_cons (sg_name 4 nd) (sgs_cons (sg_name 9 nd) (sgs_nil)))) (fun _ _ _ _ _ => sts_nil) (fun _ _ _ _ _ => se_bin o_add (se_int) (se_var 4)))) (sa_nil))) nd)
    (ss_cons (ss_set 3 (se_callB (b_sumA rfl) rfl Z_sum (by decide +kernel) (sa_cons (SF.fz (sf_lc [("_law_size", 4), ("_law_place", 9)] rfl nd (si_seq (se_var 1)) (blkOk_by (by change blkC N_l_due (defScope s_l_due) _ _ = true; decide +kernel)) (by decide) (fun _ _ _ _ _ => sg_tup rfl (sgs_cons (sg_name 4 nd) (sgs_cons (sg_name 9 nd) (sgs_nil)))) (fun _ _ _ _ _ => sts_nil) (fun _ _ _ _ _ => se_bin o_add (se_int) (se_var 4)))) (sa_nil))) nd)
    (ss_cons (ss_if (st_cmp (o_ne (hu_big hr)) (se_var 2) (se_var 3)) (ss_one (ss_ret (se_bin o_sub (se_callT (b_int) rfl Z_int (by decide +kernel) (sa_cons (se_cmp o_gt (se_var 2) (se_var 3)) (sa_nil))) (se_callT (b_int) rfl Z_int (by decide +kernel) (sa_cons (se_cmp o_lt (se_var 2) (se_var 3)) (sa_nil)))))) (ss_nil))
    (ss_cons (ss_for (passes_of rfl) rfl (si_range1 rfl Z_range (sa_cons (se_int) (sa_nil))) (sg_name 4 nd) (ss_cons (ss_setLc 5 (g := eFz) [("_law_spot_here", 10)] (fun _ _ _ z => lift_fz z) rfl nd rfl rfl (sw_true rfl rfl rfl (by decide +kernel)) (si_seq (se_var 0)) (blkOk_by (by change blkC N_l_due (defScope s_l_due) _ _ = true; decide +kernel)) (by decide) (fun _ _ _ _ _ => sg_name 10 nd) (fun _ _ _ _ _ => sts_one (st_cmp (o_eq (hu_big hr)) (se_ix (se_var 10) (se_int)) (se_var 4))) (fun _ _ _ _ _ => se_var 10))
    (ss_cons (ss_setLc 6 (g := eFz) [("_law_spot_here", 10)] (fun _ _ _ z => lift_fz z) rfl nd rfl rfl (sw_true rfl rfl rfl (by decide +kernel)) (si_seq (se_var 1)) (blkOk_by (by change blkC N_l_due (defScope s_l_due) _ _ = true; decide +kernel)) (by decide) (fun _ _ _ _ _ => sg_name 10 nd) (fun _ _ _ _ _ => sts_one (st_cmp (o_eq (hu_big hr)) (se_ix (se_var 10) (se_int)) (se_var 4))) (fun _ _ _ _ _ => se_var 10))
    (ss_cons (ss_if (st_cmp (o_ne (hu_big hr)) (se_callB (b_len) rfl Z_len (by decide +kernel) (sa_cons (se_var 5) (sa_nil))) (se_callB (b_len) rfl Z_len (by decide +kernel) (sa_cons (se_var 6) (sa_nil)))) (ss_one (ss_ret (se_bin o_sub (se_callT (b_int) rfl Z_int (by decide +kernel) (sa_cons (se_cmp o_gt (se_callB (b_len) rfl Z_len (by decide +kernel) (sa_cons (se_var 5) (sa_nil))) (se_callB (b_len) rfl Z_len (by decide +kernel) (sa_cons (se_var 6) (sa_nil)))) (sa_nil))) (se_callT (b_int) rfl Z_int (by decide +kernel) (sa_cons (se_cmp o_lt (se_callB (b_len) rfl Z_len (by decide +kernel) (sa_cons (se_var 5) (sa_nil))) (se_callB (b_len) rfl Z_len (by decide +kernel) (sa_cons (se_var 6) (sa_nil)))) (sa_nil)))))) (ss_nil))
    (ss_one (ss_for (passes_of rfl) rfl (si_zip rfl Z_zip (sa_cons (se_revA (se_var 5)) (sa_cons (se_revA (se_var 6)) (sa_nil)))) (sg_tup rfl (sgs_cons (sg_name 7 nd) (sgs_cons (sg_name 8 nd) (sgs_nil)))) (ss_one (ss_if (st_cmp (o_ne (hu_big hr)) (se_var 7) (se_var 8)) (ss_one (ss_ret (se_bin o_sub (se_callT (b_int) rfl Z_int (by decide +kernel) (sa_cons (se_cmp o_gt (se_ix (se_var 7) (se_int)) (se_ix (se_var 8) (se_int))) (sa_nil))) (se_callT (b_int) rfl Z_int (by decide +kernel) (sa_cons (se_cmp o_lt (se_ix (se_var 7) (se_int)) (se_ix (se_var 8) (se_int))) (sa_nil)))))) (ss_nil)))))))))
    (ss_one (ss_ret (se_int))))))
set_option maxHeartbeats 4000000 in
theorem ok_l_once {a : Addr} {fd : FuncData} (F : L2.Fun K "_law_once" "_law_once" s_l_once a fd) :
    FnOk P w K mg base (L2.CX P w) 1 a fd P_l_once (spG K ct 1 S_l_once) := by
  refine fn_ok (N := N_l_once) (ct := ct) F sc_l_once (by decide) (fun cdv A outer s H v E hr => ?_)
  have nd := sc_l_once.nd
  exact ss_cons (ss_set 1 (SF.nw (sf_lst (sa_nil))) nd)
    (ss_cons (ss_for (passes_of rfl) rfl (si_seq (se_var 0)) (sg_name 2 nd) (ss_one (ss_if (st_cmp (o_ninX (hu_65 hr)) (se_var 2) (se_var 1)) (ss_one (ss_expr (se_app (se_var 1) (se_var 2)))) (ss_nil))))
    (ss_one (ss_frz 1 (ss_ret (se_var 1)))))
set_option maxHeartbeats 4000000 in
theorem ok_l_part {a : Addr} {fd : FuncData} (F : L2.Fun K "_law_part" "_law_part" s_l_part a fd) {a_l_cell_at : Addr} {f_l_cell_at : FuncData} (G_l_cell_at : FnOk P w K mg base (L2.CX P w) 1 a_l_cell_at f_l_cell_at P_l_cell_at (spG K ct 2 S_l_cell_at)) (M_l_cell_at : mg "_law_cell_at" = some (.ref a_l_cell_at)) (K_l_cell_at : PySem.W.keepIn K (.ref a_l_cell_at) = true) (B_l_cell_at : Binds K f_l_cell_at P_l_cell_at []) :
    FnOk P w K mg base (L2.CX P w) 2 a fd P_l_part (spG K ct 1 S_l_part) := by
  refine fn_ok (N := N_l_part) (ct := ct) F sc_l_part (by decide) (fun cdv A outer s H v E hr => ?_)
  have nd := sc_l_part.nd
  exact ss_cons (ss_set 1 (se_call G_l_cell_at (hr.mono (by decide)) (takes_of rfl rfl rfl rfl) rfl M_l_cell_at K_l_cell_at B_l_cell_at (sa_cons (se_var 0) (sa_cons (se_int) (sa_nil))) (lenA_cons (lenA_cons (lenA_nil)))) nd)
    (ss_cons (ss_set 2 (se_bin o_sub (se_bin o_mod (se_bin o_div (se_var 1) (se_int)) (se_bin o_pow (se_int) (se_int))) (se_bin o_mul (se_int) (se_bin o_pow (se_int) (se_int)))) nd)
    (ss_cons (ss_set 3 (se_ix (SF.fz (sf_lst (sa_cons (se_str) (sa_cons (se_str) (sa_cons (se_str) (sa_cons (se_str) (sa_nil))))))) (se_bin o_mod (se_bin o_div (se_var 1) (se_int)) (se_int))) nd)
    (ss_one (ss_ret (se_ix (SF.fz (sf_lst (sa_cons (se_tup (sa_cons (se_str) (sa_cons (se_var 2) (sa_cons (se_bin o_add (se_var 2) (se_int)) (sa_nil))))) (sa_cons (se_tup (sa_cons (se_str) (sa_cons (se_var 3) (sa_nil)))) (sa_nil))))) (se_bin o_mod (se_var 1) (se_int)))))))
set_option maxHeartbeats 4000000 in
theorem ok_l_spot {a : Addr} {fd : FuncData} (F : L2.Fun K "_law_spot" "_law_spot" s_l_spot a fd) :
    FnOk P w K mg base (L2.CX P w) 1 a fd P_l_spot (spG K ct 3 S_l_spot) := by
  refine fn_ok (N := N_l_spot) (ct := ct) F sc_l_spot (by decide) (fun cdv A outer s H v E hr => ?_)
  have nd := sc_l_spot.nd
  exact ss_cons (ss_if (st_cmp (o_eq (hu_big hr)) (se_ix (se_var 0) (se_int)) (se_str)) (ss_one (ss_ret (se_tup (sa_cons (se_var 1) (sa_cons (se_bin o_mod (se_var 2) (se_ix (SF.fz (sf_lst (sa_cons (se_int) (sa_cons (se_int) (sa_cons (se_int) (sa_cons (se_int) (sa_nil))))))) (se_var 1))) (sa_nil)))))) (ss_nil))
    (ss_one (ss_ret (se_tup (sa_cons (se_var 1) (sa_cons (se_bin o_mod (se_var 2) (se_ix (SF.fz (sf_lst (sa_cons (se_int) (sa_cons (se_int) (sa_cons (se_int) (sa_cons (se_int) (sa_nil))))))) (se_var 1))) (sa_nil))))))
set_option maxHeartbeats 4000000 in
theorem ok_l_spots {a : Addr} {fd : FuncData} (F : L2.Fun K "_law_spots" "_law_spots" s_l_spots a fd) {a_l_cell_at : Addr} {f_l_cell_at : FuncData} (G_l_cell_at : FnOk P w K mg base (L2.CX P w) 1 a_l_cell_at f_l_cell_at P_l_cell_at (spG K ct 2 S_l_cell_at)) (M_l_cell_at : mg "_law_cell_at" = some (.ref a_l_cell_at)) (K_l_cell_at : PySem.W.keepIn K (.ref a_l_cell_at) = true) (B_l_cell_at : Binds K f_l_cell_at P_l_cell_at []) {a_l_spot : Addr} {f_l_spot : FuncData} (G_l_spot : FnOk P w K mg base (L2.CX P w) 1 a_l_spot f_l_spot P_l_spot (spG K ct 3 S_l_spot)) (M_l_spot : mg "_law_spot" = some (.ref a_l_spot)) (K_l_spot : PySem.W.keepIn K (.ref a_l_spot) = true) (B_l_spot : Binds K f_l_spot P_l_spot []) (Z_len : mg "len" = none) (Z_range : mg "range" = none) (Z_sorted : mg "sorted" = none) :
    FnOk P w K mg base (L2.CX P w) 2 a fd P_l_spots (spG K ct 2 S_l_spots) := by
  refine fn_ok (N := N_l_spots) (ct := ct) F sc_l_spots (by decide) (fun cdv A outer s H v E hr => ?_)
  have nd := sc_l_spots.nd
  exact ss_cons (ss_set 2 (SF.nw (sf_lst (sa_nil))) nd)
    (ss_cons (ss_set 3 (SF.nw (sf_lst (sa_nil))) nd)
    (ss_cons (ss_for (passes_of rfl) rfl (si_seq (se_sl (se_var 1) (so_some (se_int)) (so_some (se_int)))) (sg_name 4 nd) (ss_cons (ss_set 5 (se_call G_l_spot (hr.mono (by decide)) (takes_of rfl rfl rfl rfl) rfl M_l_spot K_l_spot B_l_spot (sa_cons (se_var 0) (sa_cons (se_bin o_mod (se_var 4) (se_int)) (sa_cons (se_bin o_div (se_var 4) (se_int)) (sa_nil)))) (lenA_cons (lenA_cons (lenA_cons (lenA_nil))))) nd)
    (ss_cons (ss_expr (se_app (se_var 2) (se_var 5)))
    (ss_cons (ss_if (st_cmp (o_eq (hu_big hr)) (se_bin o_mod (se_bin o_div (se_var 4) (se_int)) (se_int)) (se_int)) (ss_one (ss_set 5 (se_call G_l_spot (hr.mono (by decide)) (takes_of rfl rfl rfl rfl) rfl M_l_spot K_l_spot B_l_spot (sa_cons (se_var 0) (sa_cons (se_bin o_mod (se_var 4) (se_int)) (sa_cons (se_bin o_div (se_var 4) (se_int)) (sa_nil)))) (lenA_cons (lenA_cons (lenA_cons (lenA_nil))))) nd)) (ss_nil))
    (ss_one (ss_expr (se_app (se_var 3) (se_var 5))))))))
    (ss_cons (ss_set 4 (se_call G_l_cell_at (hr.mono (by decide)) (takes_of rfl rfl rfl rfl) rfl M_l_cell_at K_l_cell_at B_l_cell_at (sa_cons (se_var 1) (sa_cons (se_int) (sa_nil))) (lenA_cons (lenA_cons (lenA_nil)))) nd)
    (ss_cons (ss_set 6 (se_ix (SF.fz (sf_lst (sa_cons (SF.fz (sf_lst (sa_nil))) (sa_cons (SF.fz (sf_lst (sa_cons (se_int) (sa_cons (se_int) (sa_cons (se_int) (sa_cons (se_int) (sa_nil))))))) (sa_cons (SF.fz (sf_lst (sa_cons (se_int) (sa_cons (se_int) (sa_cons (se_int) (sa_cons (se_int) (sa_nil))))))) (sa_cons (SF.fz (sf_lst (sa_cons (se_int) (sa_cons (se_int) (sa_cons (se_int) (sa_nil)))))) (sa_nil))))))) (se_bin o_mod (se_var 4) (se_int))) nd)
    (ss_cons (ss_for (passes_of rfl) rfl (si_range1 rfl Z_range (sa_cons (se_callB (b_len) rfl Z_len (by decide +kernel) (sa_cons (se_var 6) (sa_nil))) (sa_nil))) (sg_name 7 nd) (ss_cons (ss_set 5 (se_call G_l_spot (hr.mono (by decide)) (takes_of rfl rfl rfl rfl) rfl M_l_spot K_l_spot B_l_spot (sa_cons (se_var 0) (sa_cons (se_ix (se_var 6) (se_var 7)) (sa_cons (se_bin o_div (se_bin o_div (se_var 4) (se_int)) (se_bin o_add (se_bin o_mul (se_int) (se_var 7)) (se_int))) (sa_nil)))) (lenA_cons (lenA_cons (lenA_cons (lenA_nil))))) nd)
    (ss_one (ss_if (PW.pt (sw_or (PW.pt (sw_and (st_cmp o_lt (se_bin o_mul (se_int) (se_var 7)) (se_callB (b_len) rfl Z_len (by decide +kernel) (sa_cons (se_var 6) (sa_nil)))) (sw_and1 (st_cmp (o_eq (hu_big hr)) (se_callB (b_len) rfl Z_len (by decide +kernel) (sa_cons (se_var 6) (sa_nil))) (se_int))))) (sw_or1 (PW.pt (sw_and (st_cmp (o_eq (hu_big hr)) (se_callB (b_len) rfl Z_len (by decide +kernel) (sa_cons (se_var 6) (sa_nil))) (se_int)) (sw_and1 (st_cmp (o_eq (hu_big hr)) (se_var 7) (se_int)))))))) (ss_one (ss_expr (se_app (se_var 2) (se_var 5)))) (ss_one (ss_expr (se_app (se_var 3) (se_var 5))))))))
    (ss_one (ss_frz 3 (ss_frz 2 (ss_ret (se_tup (sa_cons (se_psort rfl Z_sorted (se_var 2)) (sa_cons (se_psort rfl Z_sorted (se_var 3)) (sa_nil)))))))))))))
set_option maxHeartbeats 4000000 in
theorem ok_l_thing {a : Addr} {fd : FuncData} (F : L2.Fun K "_law_thing" "_law_thing" s_l_thing a fd) (Z_range : mg "range" = none) :
    FnOk P w K mg base (L2.CX P w) 1 a fd P_l_thing (spG K ct 2 S_l_thing) := by
  refine fn_ok (N := N_l_thing) (ct := ct) F sc_l_thing (by decide) (fun cdv A outer s H v E hr => ?_)
  have nd := sc_l_thing.nd
  exact ss_cons (ss_asg (se_var 1) (sg_tup rfl (sgs_cons (sg_name 2 nd) (sgs_cons (sg_name 3 nd) (sgs_nil)))))
    (ss_cons (ss_if (st_cmp (o_eq (hu_big hr)) (se_ix (se_var 0) (se_int)) (se_str)) (ss_one (ss_ret (se_bin o_add (se_bin o_add (se_ix (se_var 0) (se_int)) (se_ix (SF.fz (sf_lst (sa_cons (se_int) (sa_cons (se_int) (sa_cons (se_int) (sa_cons (se_int) (sa_nil))))))) (se_var 2))) (se_var 3)))) (ss_nil))
    (ss_cons (ss_set 4 (se_str) nd)
    (ss_cons (ss_for (passes_of rfl) rfl (si_range1 rfl Z_range (sa_cons (se_var 2) (sa_nil))) (sg_name 5 nd) (ss_cons (ss_set 4 (se_bin o_add (se_ix (se_ix (se_var 0) (se_int)) (se_bin o_mod (se_var 3) (se_int))) (se_var 4)) nd)
    (ss_one (ss_set 3 (se_bin o_div (se_var 3) (se_int)) nd))))
    (ss_one (ss_ret (se_var 4))))))
set_option maxHeartbeats 4000000 in
theorem ok_law {a : Addr} {fd : FuncData} (F : L2.Fun K "law" "law" s_law a fd) {a_l_asked : Addr} {f_l_asked : FuncData} (G_l_asked : FnOk P w K mg base (L2.CX P w) 65 a_l_asked f_l_asked P_l_asked (spG K ct 4 S_l_asked)) (M_l_asked : mg "_law_asked" = some (.ref a_l_asked)) (K_l_asked : PySem.W.keepIn K (.ref a_l_asked) = true) (B_l_asked : Binds K f_l_asked P_l_asked []) {a_l_cell_at : Addr} {f_l_cell_at : FuncData} (G_l_cell_at : FnOk P w K mg base (L2.CX P w) 1 a_l_cell_at f_l_cell_at P_l_cell_at (spG K ct 2 S_l_cell_at)) (M_l_cell_at : mg "_law_cell_at" = some (.ref a_l_cell_at)) (K_l_cell_at : PySem.W.keepIn K (.ref a_l_cell_at) = true) (B_l_cell_at : Binds K f_l_cell_at P_l_cell_at []) {a_l_due : Addr} {f_l_due : FuncData} (G_l_due : FnOk P w K mg base (L2.CX P w) 1 a_l_due f_l_due P_l_due (spG K ct 2 S_l_due)) (M_l_due : mg "_law_due" = some (.ref a_l_due)) (K_l_due : PySem.W.keepIn K (.ref a_l_due) = true) (B_l_due : Binds K f_l_due P_l_due []) {a_l_once : Addr} {f_l_once : FuncData} (G_l_once : FnOk P w K mg base (L2.CX P w) 1 a_l_once f_l_once P_l_once (spG K ct 1 S_l_once)) (M_l_once : mg "_law_once" = some (.ref a_l_once)) (K_l_once : PySem.W.keepIn K (.ref a_l_once) = true) (B_l_once : Binds K f_l_once P_l_once []) {a_l_part : Addr} {f_l_part : FuncData} (G_l_part : FnOk P w K mg base (L2.CX P w) 2 a_l_part f_l_part P_l_part (spG K ct 1 S_l_part)) (M_l_part : mg "_law_part" = some (.ref a_l_part)) (K_l_part : PySem.W.keepIn K (.ref a_l_part) = true) (B_l_part : Binds K f_l_part P_l_part []) {a_l_spots : Addr} {f_l_spots : FuncData} (G_l_spots : FnOk P w K mg base (L2.CX P w) 2 a_l_spots f_l_spots P_l_spots (spG K ct 2 S_l_spots)) (M_l_spots : mg "_law_spots" = some (.ref a_l_spots)) (K_l_spots : PySem.W.keepIn K (.ref a_l_spots) = true) (B_l_spots : Binds K f_l_spots P_l_spots []) {a_l_thing : Addr} {f_l_thing : FuncData} (G_l_thing : FnOk P w K mg base (L2.CX P w) 1 a_l_thing f_l_thing P_l_thing (spG K ct 2 S_l_thing)) (M_l_thing : mg "_law_thing" = some (.ref a_l_thing)) (K_l_thing : PySem.W.keepIn K (.ref a_l_thing) = true) (B_l_thing : Binds K f_l_thing P_l_thing []) :
    FnOk P w K mg base (L2.CX P w) 66 a fd P_law (spG K ct 1 S_law) := by
  refine fn_ok (N := N_law) (ct := ct) F sc_law (by decide) (fun cdv A outer s H v E hr => ?_)
  have nd := sc_law.nd
  exact ss_cons (ss_set 1 (se_call G_l_part (hr.mono (by decide)) (takes_of rfl rfl rfl rfl) rfl M_l_part K_l_part B_l_part (sa_cons (se_var 0) (sa_nil)) (lenA_cons (lenA_nil))) nd)
    (ss_cons (ss_asg (se_call G_l_spots (hr.mono (by decide)) (takes_of rfl rfl rfl rfl) rfl M_l_spots K_l_spots B_l_spots (sa_cons (se_var 1) (sa_cons (se_var 0) (sa_nil))) (lenA_cons (lenA_cons (lenA_nil)))) (sg_tup rfl (sgs_cons (sg_name 2 nd) (sgs_cons (sg_name 3 nd) (sgs_nil)))))
    (ss_cons (ss_set 4 (se_tup (sa_cons (se_str) (sa_cons (se_var 1) (sa_nil)))) nd)
    (ss_cons (ss_if (st_cmp (o_eq (hu_big hr)) (se_bin o_mod (se_call G_l_cell_at (hr.mono (by decide)) (takes_of rfl rfl rfl rfl) rfl M_l_cell_at K_l_cell_at B_l_cell_at (sa_cons (se_var 0) (sa_cons (se_int) (sa_nil))) (lenA_cons (lenA_cons (lenA_nil)))) (se_int)) (se_int)) (ss_cons (ss_set 4 (se_tup (sa_cons (se_str) (sa_cons (se_var 1) (sa_nil)))) nd)
    (ss_cons (ss_set 2 (se_call G_l_once (hr.mono (by decide)) (takes_of rfl rfl rfl rfl) rfl M_l_once K_l_once B_l_once (sa_cons (se_var 2) (sa_nil)) (lenA_cons (lenA_nil))) nd)
    (ss_one (ss_set 3 (se_call G_l_once (hr.mono (by decide)) (takes_of rfl rfl rfl rfl) rfl M_l_once K_l_once B_l_once (sa_cons (se_var 3) (sa_nil)) (lenA_cons (lenA_nil))) nd)))) (ss_nil))
    (ss_cons (ss_set 5 (se_call G_l_due (hr.mono (by decide)) (takes_of rfl rfl rfl rfl) rfl M_l_due K_l_due B_l_due (sa_cons (se_var 2) (sa_cons (se_var 3) (sa_nil))) (lenA_cons (lenA_cons (lenA_nil)))) nd)
    (ss_cons (ss_setLc 6 (g := eFz) [("_law_spot_here", 8)] (fun _ _ _ z => lift_fz z) rfl nd rfl rfl (sw_true rfl rfl rfl (by decide +kernel)) (si_seq (se_var 2)) (blkOk_by (by change blkC N_law (defScope s_law) _ _ = true; decide +kernel)) (by decide) (fun _ _ _ _ _ => sg_name 8 nd) (fun _ _ _ _ _ => sts_nil) (fun _ _ _ _ _ => se_call G_l_thing (hr.mono (show 1 ≤ 65 by decide)) takes0 rfl M_l_thing K_l_thing B_l_thing (sa_cons (se_var 1) (sa_cons (se_var 8) (sa_nil))) (lenA_cons (lenA_cons (lenA_nil)))))
    (ss_cons (ss_setLc 7 (g := eFz) [("_law_spot_here", 8)] (fun _ _ _ z => lift_fz z) rfl nd rfl rfl (sw_true rfl rfl rfl (by decide +kernel)) (si_seq (se_var 3)) (blkOk_by (by change blkC N_law (defScope s_law) _ _ = true; decide +kernel)) (by decide) (fun _ _ _ _ _ => sg_name 8 nd) (fun _ _ _ _ _ => sts_nil) (fun _ _ _ _ _ => se_call G_l_thing (hr.mono (show 1 ≤ 65 by decide)) takes0 rfl M_l_thing K_l_thing B_l_thing (sa_cons (se_var 1) (sa_cons (se_var 8) (sa_nil))) (lenA_cons (lenA_cons (lenA_nil)))))
    (ss_cons (ss_if (PW.pt (sw_or (st_not (st_val (se_call G_l_asked (hr.mono (by decide)) (takes_of rfl rfl rfl rfl) rfl M_l_asked K_l_asked B_l_asked (sa_cons (se_var 4) (sa_cons (se_var 6) (sa_cons (se_var 7) (sa_cons (se_var 5) (sa_nil))))) (lenA_cons (lenA_cons (lenA_cons (lenA_cons (lenA_nil)))))))) (sw_or1 (st_not (st_val (se_call G_l_asked (hr.mono (by decide)) (takes_of rfl rfl rfl rfl) rfl M_l_asked K_l_asked B_l_asked (sa_cons (se_var 4) (sa_cons (se_var 7) (sa_cons (se_var 6) (sa_cons (se_bin o_sub (se_int) (se_var 5)) (sa_nil))))) (lenA_cons (lenA_cons (lenA_cons (lenA_cons (lenA_nil))))))))))) (ss_one (ss_ret (se_bl))) (ss_nil))
    (ss_one (ss_ret (se_call G_l_asked (hr.mono (by decide)) (takes_of rfl rfl rfl rfl) rfl M_l_asked K_l_asked B_l_asked (sa_cons (se_var 4) (sa_cons (se_var 6) (sa_cons (se_var 6) (sa_cons (se_int) (sa_nil))))) (lenA_cons (lenA_cons (lenA_cons (lenA_cons (lenA_nil)))))))))))))))
end
def ctOf (c_NoName c_CountError c_NoValue : Addr) : String → Addr := fun s => if s = "NoName" then c_NoName else if s = "CountError" then c_CountError else if s = "NoValue" then c_NoValue else 0
set_option maxHeartbeats 4000000 in
theorem all_mk {l : PySem.W.OpenLaw} {w : World} {K : PySem.W.Frag} {h : Heap} {mg : Str → Option Value} {fa : Addr} (X : K.In h) (G : h.Ns mainGlobals mg) (hfa : mg "law" = some (.ref fa))
    {c_NoName c_CountError c_NoValue : Addr}
    {a_NoValue___init__ : Addr} {od_NoValue an_NoValue : Option Addr} {sl_NoValue : Array (Option Value)} {oc_NoValue kV_NoValue dc_NoValue pm_NoValue cd_NoValue ct_NoValue : Value} {nm_NoValue q_NoValue : Str} {N_NoValue : Addr} {bs_NoValue bm_NoValue sub_NoValue : List Value} {sn_NoValue : List Str} {ab_NoValue : Bool} {col_NoValue : Option Bool} {dd_NoValue : Option Addr} {k0_NoValue k1_NoValue k2_NoValue k3_NoValue k5_NoValue : Option Value}
    {a_l_whole : Addr} {od0 an0 : Option Addr} {sl0 : Array (Option Value)} {oc0 kV0 dc0 pm0 cd0 ct0 : Value}
    {a_place_of : Addr} {od1 an1 : Option Addr} {sl1 : Array (Option Value)} {oc1 kV1 dc1 pm1 cd1 ct1 : Value}
    {a_all_alike : Addr} {od2 an2 : Option Addr} {sl2 : Array (Option Value)} {oc2 kV2 dc2 pm2 cd2 ct2 : Value}
    {a_shape_of : Addr} {od3 an3 : Option Addr} {sl3 : Array (Option Value)} {oc3 kV3 dc3 pm3 cd3 ct3 : Value}
    {a_measured : Addr} {od4 an4 : Option Addr} {sl4 : Array (Option Value)} {oc4 kV4 dc4 pm4 cd4 ct4 : Value}
    {a_heaps : Addr} {od5 an5 : Option Addr} {sl5 : Array (Option Value)} {oc5 kV5 dc5 pm5 cd5 ct5 : Value}
    {a_sign_of : Addr} {od6 an6 : Option Addr} {sl6 : Array (Option Value)} {oc6 kV6 dc6 pm6 cd6 ct6 : Value}
    {a_order_of_texts : Addr} {od7 an7 : Option Addr} {sl7 : Array (Option Value)} {oc7 kV7 dc7 pm7 cd7 ct7 : Value}
    {a_order_of_picks : Addr} {od8 an8 : Option Addr} {sl8 : Array (Option Value)} {oc8 kV8 dc8 pm8 cd8 ct8 : Value}
    {a_order_of_rows : Addr} {od9 an9 : Option Addr} {sl9 : Array (Option Value)} {oc9 kV9 dc9 pm9 cd9 ct9 : Value}
    {a_order_of_heaps : Addr} {od10 an10 : Option Addr} {sl10 : Array (Option Value)} {oc10 kV10 dc10 pm10 cd10 ct10 : Value}
    {a_order : Addr} {od11 an11 : Option Addr} {sl11 : Array (Option Value)} {oc11 kV11 dc11 pm11 cd11 ct11 : Value}
    {a_rises : Addr} {od12 an12 : Option Addr} {sl12 : Array (Option Value)} {oc12 kV12 dc12 pm12 cd12 ct12 : Value}
    {a_fits_parts : Addr} {od13 an13 : Option Addr} {sl13 : Array (Option Value)} {oc13 kV13 dc13 pm13 cd13 ct13 : Value}
    {a_fits_list : Addr} {od14 an14 : Option Addr} {sl14 : Array (Option Value)} {oc14 kV14 dc14 pm14 cd14 ct14 : Value}
    {a_fits_branch : Addr} {od15 an15 : Option Addr} {sl15 : Array (Option Value)} {oc15 kV15 dc15 pm15 cd15 ct15 : Value}
    {a_fits : Addr} {od16 an16 : Option Addr} {sl16 : Array (Option Value)} {oc16 kV16 dc16 pm16 cd16 ct16 : Value}
    {a_compared : Addr} {od17 an17 : Option Addr} {sl17 : Array (Option Value)} {oc17 kV17 dc17 pm17 cd17 ct17 : Value}
    {a_l_asked : Addr} {od18 an18 : Option Addr} {sl18 : Array (Option Value)} {oc18 kV18 dc18 pm18 cd18 ct18 : Value}
    {a_l_cell_at : Addr} {od19 an19 : Option Addr} {sl19 : Array (Option Value)} {oc19 kV19 dc19 pm19 cd19 ct19 : Value}
    {a_l_due : Addr} {od20 an20 : Option Addr} {sl20 : Array (Option Value)} {oc20 kV20 dc20 pm20 cd20 ct20 : Value}
    {a_l_once : Addr} {od21 an21 : Option Addr} {sl21 : Array (Option Value)} {oc21 kV21 dc21 pm21 cd21 ct21 : Value}
    {a_l_part : Addr} {od22 an22 : Option Addr} {sl22 : Array (Option Value)} {oc22 kV22 dc22 pm22 cd22 ct22 : Value}
    {a_l_spot : Addr} {od23 an23 : Option Addr} {sl23 : Array (Option Value)} {oc23 kV23 dc23 pm23 cd23 ct23 : Value}
    {a_l_spots : Addr} {od24 an24 : Option Addr} {sl24 : Array (Option Value)} {oc24 kV24 dc24 pm24 cd24 ct24 : Value}
    {a_l_thing : Addr} {od25 an25 : Option Addr} {sl25 : Array (Option Value)} {oc25 kV25 dc25 pm25 cd25 ct25 : Value}
    {a_law : Addr} {od26 an26 : Option Addr} {sl26 : Array (Option Value)} {oc26 kV26 dc26 pm26 cd26 ct26 : Value}
    (N_0 : PySem.W.nsIn K mainGlobals "_law_whole" = some (some (.ref a_l_whole)))
    (L_0 : K.lookup a_l_whole = some ⟨oc0, od0, .func (PySem.W.fnOf "_law_whole" "_law_whole" (defArgs s_l_whole) (defBody s_l_whole) (defScope s_l_whole) .none kV0 dc0 pm0 an0 cd0 ct0), sl0⟩)
    (C_0 : PySem.W.codeIn K cd0 "_law_whole" = true)
    (K_l_whole : PySem.W.keepIn K (.ref a_l_whole) = true)
    (N_1 : PySem.W.nsIn K mainGlobals "place_of" = some (some (.ref a_place_of)))
    (L_1 : K.lookup a_place_of = some ⟨oc1, od1, .func (PySem.W.fnOf "place_of" "place_of" (defArgs s_place_of) (defBody s_place_of) (defScope s_place_of) .none kV1 dc1 pm1 an1 cd1 ct1), sl1⟩)
    (C_1 : PySem.W.codeIn K cd1 "place_of" = true)
    (K_place_of : PySem.W.keepIn K (.ref a_place_of) = true)
    (N_2 : PySem.W.nsIn K mainGlobals "all_alike" = some (some (.ref a_all_alike)))
    (L_2 : K.lookup a_all_alike = some ⟨oc2, od2, .func (PySem.W.fnOf "all_alike" "all_alike" (defArgs s_all_alike) (defBody s_all_alike) (defScope s_all_alike) .none kV2 dc2 pm2 an2 cd2 ct2), sl2⟩)
    (C_2 : PySem.W.codeIn K cd2 "all_alike" = true)
    (K_all_alike : PySem.W.keepIn K (.ref a_all_alike) = true)
    (N_3 : PySem.W.nsIn K mainGlobals "shape_of" = some (some (.ref a_shape_of)))
    (L_3 : K.lookup a_shape_of = some ⟨oc3, od3, .func (PySem.W.fnOf "shape_of" "shape_of" (defArgs s_shape_of) (defBody s_shape_of) (defScope s_shape_of) .none kV3 dc3 pm3 an3 cd3 ct3), sl3⟩)
    (C_3 : PySem.W.codeIn K cd3 "shape_of" = true)
    (K_shape_of : PySem.W.keepIn K (.ref a_shape_of) = true)
    (N_4 : PySem.W.nsIn K mainGlobals "measured" = some (some (.ref a_measured)))
    (L_4 : K.lookup a_measured = some ⟨oc4, od4, .func (PySem.W.fnOf "measured" "measured" (defArgs s_measured) (defBody s_measured) (defScope s_measured) .none kV4 dc4 pm4 an4 cd4 ct4), sl4⟩)
    (C_4 : PySem.W.codeIn K cd4 "measured" = true)
    (K_measured : PySem.W.keepIn K (.ref a_measured) = true)
    (N_5 : PySem.W.nsIn K mainGlobals "heaps" = some (some (.ref a_heaps)))
    (L_5 : K.lookup a_heaps = some ⟨oc5, od5, .func (PySem.W.fnOf "heaps" "heaps" (defArgs s_heaps) (defBody s_heaps) (defScope s_heaps) .none kV5 dc5 pm5 an5 cd5 ct5), sl5⟩)
    (C_5 : PySem.W.codeIn K cd5 "heaps" = true)
    (K_heaps : PySem.W.keepIn K (.ref a_heaps) = true)
    (N_6 : PySem.W.nsIn K mainGlobals "sign_of" = some (some (.ref a_sign_of)))
    (L_6 : K.lookup a_sign_of = some ⟨oc6, od6, .func (PySem.W.fnOf "sign_of" "sign_of" (defArgs s_sign_of) (defBody s_sign_of) (defScope s_sign_of) .none kV6 dc6 pm6 an6 cd6 ct6), sl6⟩)
    (C_6 : PySem.W.codeIn K cd6 "sign_of" = true)
    (K_sign_of : PySem.W.keepIn K (.ref a_sign_of) = true)
    (N_7 : PySem.W.nsIn K mainGlobals "order_of_texts" = some (some (.ref a_order_of_texts)))
    (L_7 : K.lookup a_order_of_texts = some ⟨oc7, od7, .func (PySem.W.fnOf "order_of_texts" "order_of_texts" (defArgs s_order_of_texts) (defBody s_order_of_texts) (defScope s_order_of_texts) .none kV7 dc7 pm7 an7 cd7 ct7), sl7⟩)
    (C_7 : PySem.W.codeIn K cd7 "order_of_texts" = true)
    (K_order_of_texts : PySem.W.keepIn K (.ref a_order_of_texts) = true)
    (N_8 : PySem.W.nsIn K mainGlobals "order_of_picks" = some (some (.ref a_order_of_picks)))
    (L_8 : K.lookup a_order_of_picks = some ⟨oc8, od8, .func (PySem.W.fnOf "order_of_picks" "order_of_picks" (defArgs s_order_of_picks) (defBody s_order_of_picks) (defScope s_order_of_picks) .none kV8 dc8 pm8 an8 cd8 ct8), sl8⟩)
    (C_8 : PySem.W.codeIn K cd8 "order_of_picks" = true)
    (K_order_of_picks : PySem.W.keepIn K (.ref a_order_of_picks) = true)
    (N_9 : PySem.W.nsIn K mainGlobals "order_of_rows" = some (some (.ref a_order_of_rows)))
    (L_9 : K.lookup a_order_of_rows = some ⟨oc9, od9, .func (PySem.W.fnOf "order_of_rows" "order_of_rows" (defArgs s_order_of_rows) (defBody s_order_of_rows) (defScope s_order_of_rows) .none kV9 dc9 pm9 an9 cd9 ct9), sl9⟩)
    (C_9 : PySem.W.codeIn K cd9 "order_of_rows" = true)
    (K_order_of_rows : PySem.W.keepIn K (.ref a_order_of_rows) = true)
    (N_10 : PySem.W.nsIn K mainGlobals "order_of_heaps" = some (some (.ref a_order_of_heaps)))
    (L_10 : K.lookup a_order_of_heaps = some ⟨oc10, od10, .func (PySem.W.fnOf "order_of_heaps" "order_of_heaps" (defArgs s_order_of_heaps) (defBody s_order_of_heaps) (defScope s_order_of_heaps) .none kV10 dc10 pm10 an10 cd10 ct10), sl10⟩)
    (C_10 : PySem.W.codeIn K cd10 "order_of_heaps" = true)
    (K_order_of_heaps : PySem.W.keepIn K (.ref a_order_of_heaps) = true)
    (N_11 : PySem.W.nsIn K mainGlobals "order" = some (some (.ref a_order)))
    (L_11 : K.lookup a_order = some ⟨oc11, od11, .func (PySem.W.fnOf "order" "order" (defArgs s_order) (defBody s_order) (defScope s_order) .none kV11 dc11 pm11 an11 cd11 ct11), sl11⟩)
    (C_11 : PySem.W.codeIn K cd11 "order" = true)
    (K_order : PySem.W.keepIn K (.ref a_order) = true)
    (N_12 : PySem.W.nsIn K mainGlobals "rises" = some (some (.ref a_rises)))
    (L_12 : K.lookup a_rises = some ⟨oc12, od12, .func (PySem.W.fnOf "rises" "rises" (defArgs s_rises) (defBody s_rises) (defScope s_rises) .none kV12 dc12 pm12 an12 cd12 ct12), sl12⟩)
    (C_12 : PySem.W.codeIn K cd12 "rises" = true)
    (K_rises : PySem.W.keepIn K (.ref a_rises) = true)
    (N_13 : PySem.W.nsIn K mainGlobals "fits_parts" = some (some (.ref a_fits_parts)))
    (L_13 : K.lookup a_fits_parts = some ⟨oc13, od13, .func (PySem.W.fnOf "fits_parts" "fits_parts" (defArgs s_fits_parts) (defBody s_fits_parts) (defScope s_fits_parts) .none kV13 dc13 pm13 an13 cd13 ct13), sl13⟩)
    (C_13 : PySem.W.codeIn K cd13 "fits_parts" = true)
    (K_fits_parts : PySem.W.keepIn K (.ref a_fits_parts) = true)
    (N_14 : PySem.W.nsIn K mainGlobals "fits_list" = some (some (.ref a_fits_list)))
    (L_14 : K.lookup a_fits_list = some ⟨oc14, od14, .func (PySem.W.fnOf "fits_list" "fits_list" (defArgs s_fits_list) (defBody s_fits_list) (defScope s_fits_list) .none kV14 dc14 pm14 an14 cd14 ct14), sl14⟩)
    (C_14 : PySem.W.codeIn K cd14 "fits_list" = true)
    (K_fits_list : PySem.W.keepIn K (.ref a_fits_list) = true)
    (N_15 : PySem.W.nsIn K mainGlobals "fits_branch" = some (some (.ref a_fits_branch)))
    (L_15 : K.lookup a_fits_branch = some ⟨oc15, od15, .func (PySem.W.fnOf "fits_branch" "fits_branch" (defArgs s_fits_branch) (defBody s_fits_branch) (defScope s_fits_branch) .none kV15 dc15 pm15 an15 cd15 ct15), sl15⟩)
    (C_15 : PySem.W.codeIn K cd15 "fits_branch" = true)
    (K_fits_branch : PySem.W.keepIn K (.ref a_fits_branch) = true)
    (N_16 : PySem.W.nsIn K mainGlobals "fits" = some (some (.ref a_fits)))
    (L_16 : K.lookup a_fits = some ⟨oc16, od16, .func (PySem.W.fnOf "fits" "fits" (defArgs s_fits) (defBody s_fits) (defScope s_fits) .none kV16 dc16 pm16 an16 cd16 ct16), sl16⟩)
    (C_16 : PySem.W.codeIn K cd16 "fits" = true)
    (K_fits : PySem.W.keepIn K (.ref a_fits) = true)
    (N_17 : PySem.W.nsIn K mainGlobals "compared" = some (some (.ref a_compared)))
    (L_17 : K.lookup a_compared = some ⟨oc17, od17, .func (PySem.W.fnOf "compared" "compared" (defArgs s_compared) (defBody s_compared) (defScope s_compared) .none kV17 dc17 pm17 an17 cd17 ct17), sl17⟩)
    (C_17 : PySem.W.codeIn K cd17 "compared" = true)
    (K_compared : PySem.W.keepIn K (.ref a_compared) = true)
    (N_18 : PySem.W.nsIn K mainGlobals "_law_asked" = some (some (.ref a_l_asked)))
    (L_18 : K.lookup a_l_asked = some ⟨oc18, od18, .func (PySem.W.fnOf "_law_asked" "_law_asked" (defArgs s_l_asked) (defBody s_l_asked) (defScope s_l_asked) .none kV18 dc18 pm18 an18 cd18 ct18), sl18⟩)
    (C_18 : PySem.W.codeIn K cd18 "_law_asked" = true)
    (K_l_asked : PySem.W.keepIn K (.ref a_l_asked) = true)
    (N_19 : PySem.W.nsIn K mainGlobals "_law_cell_at" = some (some (.ref a_l_cell_at)))
    (L_19 : K.lookup a_l_cell_at = some ⟨oc19, od19, .func (PySem.W.fnOf "_law_cell_at" "_law_cell_at" (defArgs s_l_cell_at) (defBody s_l_cell_at) (defScope s_l_cell_at) .none kV19 dc19 pm19 an19 cd19 ct19), sl19⟩)
    (C_19 : PySem.W.codeIn K cd19 "_law_cell_at" = true)
    (K_l_cell_at : PySem.W.keepIn K (.ref a_l_cell_at) = true)
    (N_20 : PySem.W.nsIn K mainGlobals "_law_due" = some (some (.ref a_l_due)))
    (L_20 : K.lookup a_l_due = some ⟨oc20, od20, .func (PySem.W.fnOf "_law_due" "_law_due" (defArgs s_l_due) (defBody s_l_due) (defScope s_l_due) .none kV20 dc20 pm20 an20 cd20 ct20), sl20⟩)
    (C_20 : PySem.W.codeIn K cd20 "_law_due" = true)
    (K_l_due : PySem.W.keepIn K (.ref a_l_due) = true)
    (N_21 : PySem.W.nsIn K mainGlobals "_law_once" = some (some (.ref a_l_once)))
    (L_21 : K.lookup a_l_once = some ⟨oc21, od21, .func (PySem.W.fnOf "_law_once" "_law_once" (defArgs s_l_once) (defBody s_l_once) (defScope s_l_once) .none kV21 dc21 pm21 an21 cd21 ct21), sl21⟩)
    (C_21 : PySem.W.codeIn K cd21 "_law_once" = true)
    (K_l_once : PySem.W.keepIn K (.ref a_l_once) = true)
    (N_22 : PySem.W.nsIn K mainGlobals "_law_part" = some (some (.ref a_l_part)))
    (L_22 : K.lookup a_l_part = some ⟨oc22, od22, .func (PySem.W.fnOf "_law_part" "_law_part" (defArgs s_l_part) (defBody s_l_part) (defScope s_l_part) .none kV22 dc22 pm22 an22 cd22 ct22), sl22⟩)
    (C_22 : PySem.W.codeIn K cd22 "_law_part" = true)
    (K_l_part : PySem.W.keepIn K (.ref a_l_part) = true)
    (N_23 : PySem.W.nsIn K mainGlobals "_law_spot" = some (some (.ref a_l_spot)))
    (L_23 : K.lookup a_l_spot = some ⟨oc23, od23, .func (PySem.W.fnOf "_law_spot" "_law_spot" (defArgs s_l_spot) (defBody s_l_spot) (defScope s_l_spot) .none kV23 dc23 pm23 an23 cd23 ct23), sl23⟩)
    (C_23 : PySem.W.codeIn K cd23 "_law_spot" = true)
    (K_l_spot : PySem.W.keepIn K (.ref a_l_spot) = true)
    (N_24 : PySem.W.nsIn K mainGlobals "_law_spots" = some (some (.ref a_l_spots)))
    (L_24 : K.lookup a_l_spots = some ⟨oc24, od24, .func (PySem.W.fnOf "_law_spots" "_law_spots" (defArgs s_l_spots) (defBody s_l_spots) (defScope s_l_spots) .none kV24 dc24 pm24 an24 cd24 ct24), sl24⟩)
    (C_24 : PySem.W.codeIn K cd24 "_law_spots" = true)
    (K_l_spots : PySem.W.keepIn K (.ref a_l_spots) = true)
    (N_25 : PySem.W.nsIn K mainGlobals "_law_thing" = some (some (.ref a_l_thing)))
    (L_25 : K.lookup a_l_thing = some ⟨oc25, od25, .func (PySem.W.fnOf "_law_thing" "_law_thing" (defArgs s_l_thing) (defBody s_l_thing) (defScope s_l_thing) .none kV25 dc25 pm25 an25 cd25 ct25), sl25⟩)
    (C_25 : PySem.W.codeIn K cd25 "_law_thing" = true)
    (K_l_thing : PySem.W.keepIn K (.ref a_l_thing) = true)
    (N_26 : PySem.W.nsIn K mainGlobals "law" = some (some (.ref a_law)))
    (L_26 : K.lookup a_law = some ⟨oc26, od26, .func (PySem.W.fnOf "law" "law" (defArgs s_law) (defBody s_law) (defScope s_law) .none kV26 dc26 pm26 an26 cd26 ct26), sl26⟩)
    (C_26 : PySem.W.codeIn K cd26 "law" = true)
    (K_law : PySem.W.keepIn K (.ref a_law) = true)
    (Y_all : PySem.W.nsIn K mainGlobals "all" = some none)
    (Y_bool : PySem.W.nsIn K mainGlobals "bool" = some none)
    (Y_enumerate : PySem.W.nsIn K mainGlobals "enumerate" = some none)
    (Y_int : PySem.W.nsIn K mainGlobals "int" = some none)
    (Y_isinstance : PySem.W.nsIn K mainGlobals "isinstance" = some none)
    (Y_len : PySem.W.nsIn K mainGlobals "len" = some none)
    (Y_list : PySem.W.nsIn K mainGlobals "list" = some none)
    (Y_min : PySem.W.nsIn K mainGlobals "min" = some none)
    (Y_range : PySem.W.nsIn K mainGlobals "range" = some none)
    (Y_set : PySem.W.nsIn K mainGlobals "set" = some none)
    (Y_sorted : PySem.W.nsIn K mainGlobals "sorted" = some none)
    (Y_str : PySem.W.nsIn K mainGlobals "str" = some none)
    (Y_sum : PySem.W.nsIn K mainGlobals "sum" = some none)
    (Y_tuple : PySem.W.nsIn K mainGlobals "tuple" = some none)
    (Y_zip : PySem.W.nsIn K mainGlobals "zip" = some none)
    (Cg_CountError : PySem.W.nsIn K mainGlobals "CountError" = some (some (.ref c_CountError)))
    (Cg_NoName : PySem.W.nsIn K mainGlobals "NoName" = some (some (.ref c_NoName)))
    (Ck_NoName : PySem.W.keepIn K (.ref c_NoName) = true)
    (Cq_NoName : PySem.W.excIn K c_NoName [.type "ValueError", .type "Exception", .type "BaseException", .type "object"] "ValueError.__new__" = true)
    (Cb_NoName : PySem.W.subIn K (.ref c_NoName) (.type "BaseException") = some true)
    (Ct_NoName : PySem.W.typeIn K (.ref c_NoName) = some (.type "type"))
    (Cd_NoName : PySem.W.hasDictIn K c_NoName = true)
    (Ct_CountError : PySem.W.typeIn K (.ref c_CountError) = some (.type "type"))
    (Fga_CountError : PySem.W.specialIn K (.ref c_CountError) "__getattribute__" = some (some (.builtin "type.__getattribute__")))
    (Frd_CountError : PySem.W.readsIn K c_CountError (.type "type") = true)
    (Fvv_CountError : PySem.W.findCls K (.ref c_CountError) (.type "type") "__init__" = some (.val (.builtin "ValueError.__init__")))
    (Cg_NoValue : PySem.W.nsIn K mainGlobals "NoValue" = some (some (.ref c_NoValue)))
    (Ck_NoValue : PySem.W.keepIn K (.ref c_NoValue) = true)
    (Cb_NoValue : PySem.W.subIn K (.ref c_NoValue) (.type "BaseException") = some true)
    (Ct_NoValue : PySem.W.typeIn K (.ref c_NoValue) = some (.type "type"))
    (Cd_NoValue : PySem.W.hasDictIn K c_NoValue = true)
    (Fl_NoValue : K.lookup c_NoValue = some (excClassObj nm_NoValue q_NoValue c_NoValue N_NoValue bs_NoValue bm_NoValue true sn_NoValue sub_NoValue ab_NoValue col_NoValue dd_NoValue k0_NoValue k1_NoValue k2_NoValue k3_NoValue k5_NoValue "ValueError.__new__"))
    (Fr_NoValue : PySem.HandSPX.refsVE bm_NoValue = true)
    (Fs_NoValue : PySem.W.findIn K (.ref c_NoValue) "__setattr__" = some (some (.builtin "object.__setattr__")))
    (Fi_NoValue : PySem.W.findIn K (.ref c_NoValue) "__init__" = some (some (.ref a_NoValue___init__)))
    (Ft_NoValue : PySem.W.typeIn K (.ref a_NoValue___init__) = some (.type "function"))
    (FL_NoValue : K.lookup a_NoValue___init__ = some ⟨oc_NoValue, od_NoValue, .func (PySem.W.fnOf "__init__" "NoValue.__init__" (defArgs s_NoValue___init__) (defBody s_NoValue___init__) (defScope s_NoValue___init__) .none kV_NoValue dc_NoValue pm_NoValue an_NoValue cd_NoValue ct_NoValue), sl_NoValue⟩)
    (FC_NoValue : PySem.W.codeIn K cd_NoValue "NoValue.__init__" = true)
    (FK_NoValue : PySem.W.keepIn K (.ref a_NoValue___init__) = true)
    (Fn_NoValue_value : PySem.W.findIn K (.ref c_NoValue) "value" = some none)
    (Ehg_NoValue : PySem.W.findIn K (.ref c_NoValue) "__getattribute__" = some (some (.builtin "BaseException.__getattribute__")))
    (Ehk_NoValue : PySem.W.findIn K (.ref c_NoValue) "__getattr__" = some none) :
    ∃ fd : FuncData, (∀ (s : Shared) (v : Value), BindsTo s fd ⟨[v], []⟩ [("_law_script", v)]) ∧ ∀ base : Heap, K.In base → base.Ns mainGlobals mg → FnOk l.prog w K mg base (L2.CX l.prog w) 66 fa fd ["_law_script"] (spL K S_law) := by
  have e := hfa.symm.trans (PySem.W.mg_of X G N_26)
  cases e
  have F_l_whole := fun_mk (st := s_l_whole) L_0 C_0 K_l_whole
  have B_l_whole := F_l_whole.binds (ps := P_l_whole) fun _ _ _ _ _ _ us hl => match us, hl with | [_], _ => rfl
  have M_l_whole := PySem.W.mg_of X G N_0
  have F_place_of := fun_mk (st := s_place_of) L_1 C_1 K_place_of
  have B_place_of := F_place_of.binds (ps := P_place_of) fun _ _ _ _ _ _ us hl => match us, hl with | [_, _], _ => rfl
  have M_place_of := PySem.W.mg_of X G N_1
  have F_all_alike := fun_mk (st := s_all_alike) L_2 C_2 K_all_alike
  have B_all_alike := F_all_alike.binds (ps := P_all_alike) fun _ _ _ _ _ _ us hl => match us, hl with | [_, _], _ => rfl
  have M_all_alike := PySem.W.mg_of X G N_2
  have F_shape_of := fun_mk (st := s_shape_of) L_3 C_3 K_shape_of
  have B_shape_of := F_shape_of.binds (ps := P_shape_of) fun _ _ _ _ _ _ us hl => match us, hl with | [_, _], _ => rfl
  have M_shape_of := PySem.W.mg_of X G N_3
  have F_measured := fun_mk (st := s_measured) L_4 C_4 K_measured
  have B_measured := F_measured.binds (ps := P_measured) fun _ _ _ _ _ _ us hl => match us, hl with | [_, _, _], _ => rfl
  have M_measured := PySem.W.mg_of X G N_4
  have F_heaps := fun_mk (st := s_heaps) L_5 C_5 K_heaps
  have B_heaps := F_heaps.binds (ps := P_heaps) fun _ _ _ _ _ _ us hl => match us, hl with | [_, _, _], _ => rfl
  have M_heaps := PySem.W.mg_of X G N_5
  have F_sign_of := fun_mk (st := s_sign_of) L_6 C_6 K_sign_of
  have B_sign_of := F_sign_of.binds (ps := P_sign_of) fun _ _ _ _ _ _ us hl => match us, hl with | [_], _ => rfl
  have M_sign_of := PySem.W.mg_of X G N_6
  have F_order_of_texts := fun_mk (st := s_order_of_texts) L_7 C_7 K_order_of_texts
  have B_order_of_texts := F_order_of_texts.binds (ps := P_order_of_texts) fun _ _ _ _ _ _ us hl => match us, hl with | [_, _, _], _ => rfl
  have M_order_of_texts := PySem.W.mg_of X G N_7
  have F_order_of_picks := fun_mk (st := s_order_of_picks) L_8 C_8 K_order_of_picks
  have B_order_of_picks := F_order_of_picks.binds (ps := P_order_of_picks) fun _ _ _ _ _ _ us hl => match us, hl with | [_, _, _, _], _ => rfl
  have M_order_of_picks := PySem.W.mg_of X G N_8
  have F_order_of_rows := fun_mk (st := s_order_of_rows) L_9 C_9 K_order_of_rows
  have B_order_of_rows := F_order_of_rows.binds (ps := P_order_of_rows) fun _ _ _ _ _ _ us hl => match us, hl with | [_, _, _, _], _ => rfl
  have M_order_of_rows := PySem.W.mg_of X G N_9
  have F_order_of_heaps := fun_mk (st := s_order_of_heaps) L_10 C_10 K_order_of_heaps
  have B_order_of_heaps := F_order_of_heaps.binds (ps := P_order_of_heaps) fun _ _ _ _ _ _ us hl => match us, hl with | [_, _, _, _], _ => rfl
  have M_order_of_heaps := PySem.W.mg_of X G N_10
  have F_order := fun_mk (st := s_order) L_11 C_11 K_order
  have B_order := F_order.binds (ps := P_order) fun _ _ _ _ _ _ us hl => match us, hl with | [_, _, _, _], _ => rfl
  have M_order := PySem.W.mg_of X G N_11
  have F_rises := fun_mk (st := s_rises) L_12 C_12 K_rises
  have B_rises := F_rises.binds (ps := P_rises) fun _ _ _ _ _ _ us hl => match us, hl with | [_, _, _, _], _ => rfl
  have M_rises := PySem.W.mg_of X G N_12
  have F_fits_parts := fun_mk (st := s_fits_parts) L_13 C_13 K_fits_parts
  have B_fits_parts := F_fits_parts.binds (ps := P_fits_parts) fun _ _ _ _ _ _ us hl => match us, hl with | [_, _, _], _ => rfl
  have M_fits_parts := PySem.W.mg_of X G N_13
  have F_fits_list := fun_mk (st := s_fits_list) L_14 C_14 K_fits_list
  have B_fits_list := F_fits_list.binds (ps := P_fits_list) fun _ _ _ _ _ _ us hl => match us, hl with | [_, _, _], _ => rfl
  have M_fits_list := PySem.W.mg_of X G N_14
  have F_fits_branch := fun_mk (st := s_fits_branch) L_15 C_15 K_fits_branch
  have B_fits_branch := F_fits_branch.binds (ps := P_fits_branch) fun _ _ _ _ _ _ us hl => match us, hl with | [_, _, _], _ => rfl
  have M_fits_branch := PySem.W.mg_of X G N_15
  have F_fits := fun_mk (st := s_fits) L_16 C_16 K_fits
  have B_fits := F_fits.binds (ps := P_fits) fun _ _ _ _ _ _ us hl => match us, hl with | [_, _, _], _ => rfl
  have M_fits := PySem.W.mg_of X G N_16
  have F_compared := fun_mk (st := s_compared) L_17 C_17 K_compared
  have B_compared := F_compared.binds (ps := P_compared) fun _ _ _ _ _ _ us hl => match us, hl with | [_, _, _, _], _ => rfl
  have M_compared := PySem.W.mg_of X G N_17
  have F_l_asked := fun_mk (st := s_l_asked) L_18 C_18 K_l_asked
  have B_l_asked := F_l_asked.binds (ps := P_l_asked) fun _ _ _ _ _ _ us hl => match us, hl with | [_, _, _, _], _ => rfl
  have M_l_asked := PySem.W.mg_of X G N_18
  have F_l_cell_at := fun_mk (st := s_l_cell_at) L_19 C_19 K_l_cell_at
  have B_l_cell_at := F_l_cell_at.binds (ps := P_l_cell_at) fun _ _ _ _ _ _ us hl => match us, hl with | [_, _], _ => rfl
  have M_l_cell_at := PySem.W.mg_of X G N_19
  have F_l_due := fun_mk (st := s_l_due) L_20 C_20 K_l_due
  have B_l_due := F_l_due.binds (ps := P_l_due) fun _ _ _ _ _ _ us hl => match us, hl with | [_, _], _ => rfl
  have M_l_due := PySem.W.mg_of X G N_20
  have F_l_once := fun_mk (st := s_l_once) L_21 C_21 K_l_once
  have B_l_once := F_l_once.binds (ps := P_l_once) fun _ _ _ _ _ _ us hl => match us, hl with | [_], _ => rfl
  have M_l_once := PySem.W.mg_of X G N_21
  have F_l_part := fun_mk (st := s_l_part) L_22 C_22 K_l_part
  have B_l_part := F_l_part.binds (ps := P_l_part) fun _ _ _ _ _ _ us hl => match us, hl with | [_], _ => rfl
  have M_l_part := PySem.W.mg_of X G N_22
  have F_l_spot := fun_mk (st := s_l_spot) L_23 C_23 K_l_spot
  have B_l_spot := F_l_spot.binds (ps := P_l_spot) fun _ _ _ _ _ _ us hl => match us, hl with | [_, _, _], _ => rfl
  have M_l_spot := PySem.W.mg_of X G N_23
  have F_l_spots := fun_mk (st := s_l_spots) L_24 C_24 K_l_spots
  have B_l_spots := F_l_spots.binds (ps := P_l_spots) fun _ _ _ _ _ _ us hl => match us, hl with | [_, _], _ => rfl
  have M_l_spots := PySem.W.mg_of X G N_24
  have F_l_thing := fun_mk (st := s_l_thing) L_25 C_25 K_l_thing
  have B_l_thing := F_l_thing.binds (ps := P_l_thing) fun _ _ _ _ _ _ us hl => match us, hl with | [_, _], _ => rfl
  have M_l_thing := PySem.W.mg_of X G N_25
  have F_law := fun_mk (st := s_law) L_26 C_26 K_law
  have B_law := F_law.binds (ps := P_law) fun _ _ _ _ _ _ us hl => match us, hl with | [_], _ => rfl
  have M_law := PySem.W.mg_of X G N_26
  have Z_all := PySem.W.mg_none_of X G Y_all
  have Z_bool := PySem.W.mg_none_of X G Y_bool
  have Z_enumerate := PySem.W.mg_none_of X G Y_enumerate
  have Z_int := PySem.W.mg_none_of X G Y_int
  have Z_isinstance := PySem.W.mg_none_of X G Y_isinstance
  have Z_len := PySem.W.mg_none_of X G Y_len
  have Z_list := PySem.W.mg_none_of X G Y_list
  have Z_min := PySem.W.mg_none_of X G Y_min
  have Z_range := PySem.W.mg_none_of X G Y_range
  have Z_set := PySem.W.mg_none_of X G Y_set
  have Z_sorted := PySem.W.mg_none_of X G Y_sorted
  have Z_str := PySem.W.mg_none_of X G Y_str
  have Z_sum := PySem.W.mg_none_of X G Y_sum
  have Z_tuple := PySem.W.mg_none_of X G Y_tuple
  have Z_zip := PySem.W.mg_none_of X G Y_zip
  have X_NoName : XC K mg (ctOf c_NoName c_CountError c_NoValue) "NoName" := ⟨PySem.W.mg_of X G Cg_NoName, Ck_NoName, Cq_NoName, Cb_NoName, Ct_NoName, Cd_NoName⟩
  have OX_NoValue : OexC K ((ctOf c_NoName c_CountError c_NoValue) "NoValue") := ⟨⟨_, _, _, _, _, _, _, _, _, _, _, _, _, _, _, Fl_NoValue, Fr_NoValue⟩, Fs_NoValue, Cb_NoValue, Ct_NoValue, Ck_NoValue⟩
  have FF_NoValue := fun_mk (st := s_NoValue___init__) FL_NoValue FC_NoValue FK_NoValue
  have BI_NoValue := FF_NoValue.binds (ps := PI_NoValue) fun _ _ _ _ _ _ us hl => match us, hl with | [_, _, _], _ => rfl
  refine ⟨PySem.W.fnOf "law" "law" (defArgs s_law) (defBody s_law) (defScope s_law) .none kV26 dc26 pm26 an26 cd26 ct26, fun s v => .of_eq rfl, fun base _ _ => ?_⟩
  have G_l_whole := ok_l_whole (P := l.prog) (w := w) (mg := mg) (base := base) (K := K) (ct := (ctOf c_NoName c_CountError c_NoValue)) F_l_whole Z_bool Z_int Z_isinstance
  have G_place_of := ok_place_of (P := l.prog) (w := w) (mg := mg) (base := base) (K := K) (ct := (ctOf c_NoName c_CountError c_NoValue)) F_place_of Z_enumerate
  have G_all_alike := ok_all_alike (P := l.prog) (w := w) (mg := mg) (base := base) (K := K) (ct := (ctOf c_NoName c_CountError c_NoValue)) F_all_alike Z_all Z_len
  have G_shape_of := ok_shape_of (P := l.prog) (w := w) (mg := mg) (base := base) (K := K) (ct := (ctOf c_NoName c_CountError c_NoValue)) F_shape_of X_NoName
  have Q_measured : ∀ n : Nat, FnOk l.prog w K mg base (L2.CX l.prog w) (1 + n) a_measured (PySem.W.fnOf "measured" "measured" (defArgs s_measured) (defBody s_measured) (defScope s_measured) .none kV4 dc4 pm4 an4 cd4 ct4) P_measured (spG K (ctOf c_NoName c_CountError c_NoValue) 3 (S_measured n)) := by
    intro n
    induction n with
    | zero => exact (fn_zero (ps := P_measured)).mono (Nat.zero_le _)
    | succ n ih =>
      have G_measured := ih
      exact ok_measured (P := l.prog) (w := w) (mg := mg) (base := base) (K := K) (ct := (ctOf c_NoName c_CountError c_NoValue)) F_measured (Nat.le_add_right _ _) G_measured M_measured K_measured B_measured G_place_of M_place_of K_place_of B_place_of G_shape_of M_shape_of K_shape_of B_shape_of Z_len Z_sum Z_zip
  have G_measured := Q_measured 20
  have G_heaps := ok_heaps (P := l.prog) (w := w) (mg := mg) (base := base) (K := K) (ct := (ctOf c_NoName c_CountError c_NoValue)) F_heaps G_measured M_measured K_measured B_measured
  have G_sign_of := ok_sign_of (P := l.prog) (w := w) (mg := mg) (base := base) (K := K) (ct := (ctOf c_NoName c_CountError c_NoValue)) F_sign_of Z_int
  have G_order_of_texts := ok_order_of_texts (P := l.prog) (w := w) (mg := mg) (base := base) (K := K) (ct := (ctOf c_NoName c_CountError c_NoValue)) F_order_of_texts G_sign_of M_sign_of K_sign_of B_sign_of Z_zip
  have Q_order : ∀ n : Nat, FnOk l.prog w K mg base (L2.CX l.prog w) (22 + n) a_order (PySem.W.fnOf "order" "order" (defArgs s_order) (defBody s_order) (defScope s_order) .none kV11 dc11 pm11 an11 cd11 ct11) P_order (spG K (ctOf c_NoName c_CountError c_NoValue) 4 (S_order n)) ∧ FnOk l.prog w K mg base (L2.CX l.prog w) (22 + n) a_order_of_heaps (PySem.W.fnOf "order_of_heaps" "order_of_heaps" (defArgs s_order_of_heaps) (defBody s_order_of_heaps) (defScope s_order_of_heaps) .none kV10 dc10 pm10 an10 cd10 ct10) P_order_of_heaps (spG K (ctOf c_NoName c_CountError c_NoValue) 4 (S_order_of_heaps n)) ∧ FnOk l.prog w K mg base (L2.CX l.prog w) (22 + n) a_order_of_picks (PySem.W.fnOf "order_of_picks" "order_of_picks" (defArgs s_order_of_picks) (defBody s_order_of_picks) (defScope s_order_of_picks) .none kV8 dc8 pm8 an8 cd8 ct8) P_order_of_picks (spG K (ctOf c_NoName c_CountError c_NoValue) 4 (S_order_of_picks n)) ∧ FnOk l.prog w K mg base (L2.CX l.prog w) (22 + n) a_order_of_rows (PySem.W.fnOf "order_of_rows" "order_of_rows" (defArgs s_order_of_rows) (defBody s_order_of_rows) (defScope s_order_of_rows) .none kV9 dc9 pm9 an9 cd9 ct9) P_order_of_rows (spG K (ctOf c_NoName c_CountError c_NoValue) 4 (S_order_of_rows n)) := by
    intro n
    induction n with
    | zero => exact ⟨(fn_zero (ps := P_order)).mono (Nat.zero_le _), (fn_zero (ps := P_order_of_heaps)).mono (Nat.zero_le _), (fn_zero (ps := P_order_of_picks)).mono (Nat.zero_le _), (fn_zero (ps := P_order_of_rows)).mono (Nat.zero_le _)⟩
    | succ n ih =>
      obtain ⟨G_order, G_order_of_heaps, G_order_of_picks, G_order_of_rows⟩ := ih
      exact ⟨ok_order (P := l.prog) (w := w) (mg := mg) (base := base) (K := K) (ct := (ctOf c_NoName c_CountError c_NoValue)) F_order (Nat.le_add_right _ _) G_measured M_measured K_measured B_measured G_order M_order K_order B_order G_order_of_heaps M_order_of_heaps K_order_of_heaps B_order_of_heaps G_order_of_picks M_order_of_picks K_order_of_picks B_order_of_picks G_order_of_rows M_order_of_rows K_order_of_rows B_order_of_rows G_order_of_texts M_order_of_texts K_order_of_texts B_order_of_texts G_shape_of M_shape_of K_shape_of B_shape_of G_sign_of M_sign_of K_sign_of B_sign_of, ok_order_of_heaps (P := l.prog) (w := w) (mg := mg) (base := base) (K := K) (ct := (ctOf c_NoName c_CountError c_NoValue)) F_order_of_heaps (Nat.le_add_right _ _) G_heaps M_heaps K_heaps B_heaps G_order_of_rows M_order_of_rows K_order_of_rows B_order_of_rows G_sign_of M_sign_of K_sign_of B_sign_of Z_len Z_set Z_sorted, ok_order_of_picks (P := l.prog) (w := w) (mg := mg) (base := base) (K := K) (ct := (ctOf c_NoName c_CountError c_NoValue)) F_order_of_picks (Nat.le_add_right _ _) G_order M_order K_order B_order G_place_of M_place_of K_place_of B_place_of G_sign_of M_sign_of K_sign_of B_sign_of, ok_order_of_rows (P := l.prog) (w := w) (mg := mg) (base := base) (K := K) (ct := (ctOf c_NoName c_CountError c_NoValue)) F_order_of_rows (Nat.le_add_right _ _) G_order M_order K_order B_order Z_len Z_min Z_range⟩
  obtain ⟨G_order, G_order_of_heaps, G_order_of_picks, G_order_of_rows⟩ := Q_order 20
  have G_rises := ok_rises (P := l.prog) (w := w) (mg := mg) (base := base) (K := K) (ct := (ctOf c_NoName c_CountError c_NoValue)) F_rises G_order M_order K_order B_order Z_len Z_range
  have Q_fits : ∀ n : Nat, FnOk l.prog w K mg base (L2.CX l.prog w) (43 + n) a_fits (PySem.W.fnOf "fits" "fits" (defArgs s_fits) (defBody s_fits) (defScope s_fits) .none kV16 dc16 pm16 an16 cd16 ct16) P_fits (spG K (ctOf c_NoName c_CountError c_NoValue) 3 (S_fits n)) ∧ FnOk l.prog w K mg base (L2.CX l.prog w) (43 + n) a_fits_branch (PySem.W.fnOf "fits_branch" "fits_branch" (defArgs s_fits_branch) (defBody s_fits_branch) (defScope s_fits_branch) .none kV15 dc15 pm15 an15 cd15 ct15) P_fits_branch (spG K (ctOf c_NoName c_CountError c_NoValue) 3 (S_fits_branch n)) ∧ FnOk l.prog w K mg base (L2.CX l.prog w) (43 + n) a_fits_list (PySem.W.fnOf "fits_list" "fits_list" (defArgs s_fits_list) (defBody s_fits_list) (defScope s_fits_list) .none kV14 dc14 pm14 an14 cd14 ct14) P_fits_list (spG K (ctOf c_NoName c_CountError c_NoValue) 3 (S_fits_list n)) ∧ FnOk l.prog w K mg base (L2.CX l.prog w) (43 + n) a_fits_parts (PySem.W.fnOf "fits_parts" "fits_parts" (defArgs s_fits_parts) (defBody s_fits_parts) (defScope s_fits_parts) .none kV13 dc13 pm13 an13 cd13 ct13) P_fits_parts (spG K (ctOf c_NoName c_CountError c_NoValue) 3 (S_fits_parts n)) := by
    intro n
    induction n with
    | zero => exact ⟨(fn_zero (ps := P_fits)).mono (Nat.zero_le _), (fn_zero (ps := P_fits_branch)).mono (Nat.zero_le _), (fn_zero (ps := P_fits_list)).mono (Nat.zero_le _), (fn_zero (ps := P_fits_parts)).mono (Nat.zero_le _)⟩
    | succ n ih =>
      obtain ⟨G_fits, G_fits_branch, G_fits_list, G_fits_parts⟩ := ih
      exact ⟨ok_fits (P := l.prog) (w := w) (mg := mg) (base := base) (K := K) (ct := (ctOf c_NoName c_CountError c_NoValue)) F_fits (Nat.le_add_right _ _) G_fits M_fits K_fits B_fits G_fits_branch M_fits_branch K_fits_branch B_fits_branch G_fits_list M_fits_list K_fits_list B_fits_list G_fits_parts M_fits_parts K_fits_parts B_fits_parts G_shape_of M_shape_of K_shape_of B_shape_of Z_all Z_bool Z_int Z_isinstance Z_list Z_str Z_tuple, ok_fits_branch (P := l.prog) (w := w) (mg := mg) (base := base) (K := K) (ct := (ctOf c_NoName c_CountError c_NoValue)) F_fits_branch (Nat.le_add_right _ _) G_fits M_fits K_fits B_fits G_place_of M_place_of K_place_of B_place_of Z_isinstance Z_len Z_str, ok_fits_list (P := l.prog) (w := w) (mg := mg) (base := base) (K := K) (ct := (ctOf c_NoName c_CountError c_NoValue)) F_fits_list (Nat.le_add_right _ _) G_all_alike M_all_alike K_all_alike B_all_alike G_fits M_fits K_fits B_fits G_rises M_rises K_rises B_rises, ok_fits_parts (P := l.prog) (w := w) (mg := mg) (base := base) (K := K) (ct := (ctOf c_NoName c_CountError c_NoValue)) F_fits_parts (Nat.le_add_right _ _) G_fits M_fits K_fits B_fits Z_len Z_zip⟩
  obtain ⟨G_fits, G_fits_branch, G_fits_list, G_fits_parts⟩ := Q_fits 20
  have G_compared := ok_compared (P := l.prog) (w := w) (mg := mg) (base := base) (K := K) (ct := (ctOf c_NoName c_CountError c_NoValue)) F_compared G_fits M_fits K_fits B_fits G_order M_order K_order B_order OX_NoValue Fi_NoValue Ft_NoValue (ok_NoValue___init__ (P := l.prog) (w := w) (mg := mg) (base := base) (C := (ctOf c_NoName c_CountError c_NoValue) "NoValue") FF_NoValue (PySem.W.mg_of X G Cg_CountError) Fga_CountError Ct_CountError Frd_CountError Fvv_CountError Fn_NoValue_value) BI_NoValue (PySem.W.mg_of X G Cg_NoValue)
  have G_l_asked := ok_l_asked (P := l.prog) (w := w) (mg := mg) (base := base) (K := K) (ct := (ctOf c_NoName c_CountError c_NoValue)) F_l_asked G_l_whole M_l_whole K_l_whole B_l_whole G_compared M_compared K_compared B_compared Z_list
  have G_l_cell_at := ok_l_cell_at (P := l.prog) (w := w) (mg := mg) (base := base) (K := K) (ct := (ctOf c_NoName c_CountError c_NoValue)) F_l_cell_at Z_len
  have G_l_due := ok_l_due (P := l.prog) (w := w) (mg := mg) (base := base) (K := K) (ct := (ctOf c_NoName c_CountError c_NoValue)) F_l_due Z_int Z_len Z_range Z_sum Z_zip
  have G_l_once := ok_l_once (P := l.prog) (w := w) (mg := mg) (base := base) (K := K) (ct := (ctOf c_NoName c_CountError c_NoValue)) F_l_once
  have G_l_part := ok_l_part (P := l.prog) (w := w) (mg := mg) (base := base) (K := K) (ct := (ctOf c_NoName c_CountError c_NoValue)) F_l_part G_l_cell_at M_l_cell_at K_l_cell_at B_l_cell_at
  have G_l_spot := ok_l_spot (P := l.prog) (w := w) (mg := mg) (base := base) (K := K) (ct := (ctOf c_NoName c_CountError c_NoValue)) F_l_spot
  have G_l_spots := ok_l_spots (P := l.prog) (w := w) (mg := mg) (base := base) (K := K) (ct := (ctOf c_NoName c_CountError c_NoValue)) F_l_spots G_l_cell_at M_l_cell_at K_l_cell_at B_l_cell_at G_l_spot M_l_spot K_l_spot B_l_spot Z_len Z_range Z_sorted
  have G_l_thing := ok_l_thing (P := l.prog) (w := w) (mg := mg) (base := base) (K := K) (ct := (ctOf c_NoName c_CountError c_NoValue)) F_l_thing Z_range
  have G_law := ok_law (P := l.prog) (w := w) (mg := mg) (base := base) (K := K) (ct := (ctOf c_NoName c_CountError c_NoValue)) F_law G_l_asked M_l_asked K_l_asked B_l_asked G_l_cell_at M_l_cell_at K_l_cell_at B_l_cell_at G_l_due M_l_due K_l_due B_l_due G_l_once M_l_once K_l_once B_l_once G_l_part M_l_part K_l_part B_l_part G_l_spots M_l_spots K_l_spots B_l_spots G_l_thing M_l_thing K_l_thing B_l_thing
  exact fn_law G_law
end Law

/-! TBa: shapes as trees, how many values they have of each size, the makers' places in the store. -/
namespace Tb
open PySem L2 Gs MCh
inductive Kd where
  | whole (lo hi : Int) | text (x : Str) | row | pick (ms : List Str) | use (n : Str) | many | rising | unlike | alike (t : Nat)
inductive Sh where
  | mk (k : Kd) (ps : List Sh)
def kd : Kd → List D → D
  | .whole lo hi, _ => .tup [.str "whole", .int lo, .int hi]
  | .text x, _ => .tup [.str "text", .str x]
  | .row, ds => .tup [.str "row", .tup ds]
  | .pick ms, ds => .tup [.str "pick", .tup (List.zipWith (fun m d => .tup [.str m, d]) ms ds)]
  | .use n, _ => .tup [.str "use", .str n]
  | .many, ds => .tup (.str "many" :: ds)
  | .rising, ds => .tup (.str "rising" :: ds)
  | .unlike, ds => .tup (.str "unlike" :: ds)
  | .alike t, ds => .tup (.str "alike" :: (ds ++ [.int t]))
mutual
def Sh.d : Sh → D
  | .mk k ps => kd k (dL ps)
def dL : List Sh → List D
  | [] => []
  | p :: ps => p.d :: dL ps
end
/-- how many parts a kind has -/
def okK : Kd → Nat → Prop
  | .whole _ _, n => n = 0
  | .text _, n => n = 0
  | .use _, n => n = 0
  | .row, n => n ≤ 100
  | .pick ms, n => ms.length = n ∧ n ≤ 100
  | .many, n => n = 1
  | .rising, n => n = 1
  | .unlike, n => n = 1
  | .alike t, n => n = 1 ∧ 0 < t ∧ t ≤ 100
mutual
def Sh.ok : Sh → Prop
  | .mk k ps => okK k ps.length ∧ okL ps
def okL : List Sh → Prop
  | [] => True
  | p :: ps => p.ok ∧ okL ps
end
mutual
def Sh.dep : Sh → Nat
  | .mk _ ps => 1 + depL ps
def depL : List Sh → Nat
  | [] => 0
  | p :: ps => max p.dep (depL ps)
end
theorem dL_map : ∀ ps : List Sh, dL ps = ps.map Sh.d
  | [] => rfl
  | p :: ps => by simp only [dL, List.map_cons, dL_map ps]
theorem dL_length (ps : List Sh) : (dL ps).length = ps.length := by rw [dL_map, List.length_map]

/-! ### counts -/
def wcnt (span : Int) : Nat → Nat
  | 0 => 1
  | z + 1 => (max 0 (min span (2 * 2 ^ z - 1) - 2 ^ z + 1)).toNat
def rcnt : List (Nat → Nat) → Nat → Nat
  | [], z => if z = 0 then 1 else 0
  | f :: fs, z => ((List.range (z + 1)).map fun i => f i * rcnt fs (z - i)).sum
/-- the first counts of the lists of things, so many -/
def mL (f : Nat → Nat) : Nat → List Nat
  | 0 => []
  | n + 1 => mL f n ++ [if n = 0 then 1 else ((List.range n).map fun i => f i * (mL f n).getD (n - 1 - i) 0).sum]
def mcnt (f : Nat → Nat) (z : Nat) : Nat := (mL f (z + 1)).getD z 0
theorem mL_len (f : Nat → Nat) : ∀ n, (mL f n).length = n
  | 0 => rfl
  | n + 1 => by simp [mL, mL_len f n]
theorem mL_get (f : Nat → Nat) : ∀ (n z : Nat), z < n → (mL f n).getD z 0 = mcnt f z
  | 0, z, h => by omega
  | n + 1, z, h => by
    by_cases e : z = n
    · subst e; rfl
    · have ih := mL_get f n z (by omega)
      rw [← ih]
      have hl := mL_len f n
      simp only [mL, List.getD_eq_getElem?_getD]
      rw [List.getElem?_append_left (by omega)]
theorem mcnt_0 (f : Nat → Nat) : mcnt f 0 = 1 := rfl
theorem sum_congr {f g : Nat → Nat} {n : Nat} (h : ∀ i, i < n → f i = g i) : ((List.range n).map f).sum = ((List.range n).map g).sum := by
  congr 1
  exact List.map_congr_left fun i hi => h i (List.mem_range.mp hi)
theorem mcnt_s (f : Nat → Nat) (z : Nat) : mcnt f (z + 1) = ((List.range (z + 1)).map fun i => f i * mcnt f (z - i)).sum := by
  have hl := mL_len f (z + 1)
  have e : mcnt f (z + 1) = (if z + 1 = 0 then 1 else ((List.range (z + 1)).map fun i => f i * (mL f (z + 1)).getD (z + 1 - 1 - i) 0).sum) := by
    unfold mcnt
    rw [show mL f (z + 1 + 1) = mL f (z + 1) ++ [if z + 1 = 0 then 1 else ((List.range (z + 1)).map fun i => f i * (mL f (z + 1)).getD (z + 1 - 1 - i) 0).sum] from rfl, List.getD_eq_getElem?_getD, List.getElem?_append_right (by omega), hl]
    simp
  rw [e, if_neg (by omega)]
  refine sum_congr fun i hi => ?_
  rw [mL_get f (z + 1) _ (by omega), show z + 1 - 1 - i = z - i by omega]
/-- lists whose things have the least size or more -/
def bey (am : Nat → Nat → Nat) (f : Nat → Nat) : Nat → Nat → Nat → Nat
  | 0, _, z => if z = 0 then 1 else 0
  | n + 1, l, z => if z = 0 then 1 else ((List.range (z / (l + 1) + 1)).map fun c => am (f l) c * bey am f n (l + 1) (z - c * (l + 1))).sum
theorem bey_0 (am : Nat → Nat → Nat) (f : Nat → Nat) : ∀ n l, bey am f n l 0 = 1
  | 0, _ => rfl
  | n + 1, _ => by simp [bey]
theorem bey_hi {am : Nat → Nat → Nat} (h0 : ∀ n, am n 0 = 1) (f : Nat → Nat) : ∀ n l z, 0 < z → z ≤ l → bey am f n l z = 0
  | 0, l, z, h, _ => by simp [bey]; omega
  | n + 1, l, z, h, hl => by
    have e : z / (l + 1) = 0 := Nat.div_eq_of_lt (by omega)
    simp only [bey, e]
    rw [if_neg (by omega)]
    simp [h0, bey_hi h0 f n (l + 1) z h (by omega)]
theorem bey_fuel {am : Nat → Nat → Nat} (h0 : ∀ n, am n 0 = 1) (f : Nat → Nat) : ∀ n m l z, z ≤ n + l → z ≤ m + l → bey am f n l z = bey am f m l z
  | 0, m, l, z, h, h2 => by
    by_cases hz : z = 0
    · subst hz; rw [bey_0, bey_0]
    · rw [bey_hi h0 f 0 l z (by omega) (by omega), bey_hi h0 f m l z (by omega) (by omega)]
  | n + 1, 0, l, z, h, h2 => by
    by_cases hz : z = 0
    · subst hz; rw [bey_0, bey_0]
    · rw [bey_hi h0 f (n + 1) l z (by omega) (by omega), bey_hi h0 f 0 l z (by omega) (by omega)]
  | n + 1, m + 1, l, z, h, h2 => by
    simp only [bey]
    by_cases hz : z = 0
    · rw [if_pos hz, if_pos hz]
    · rw [if_neg hz, if_neg hz]
      refine sum_congr fun c _ => ?_
      rw [bey_fuel h0 f n m (l + 1) _ (by omega) (by omega)]
def beyond (am : Nat → Nat → Nat) (f : Nat → Nat) (l z : Nat) : Nat := bey am f z l z
theorem beyond_0 (am : Nat → Nat → Nat) (f : Nat → Nat) (l : Nat) : beyond am f l 0 = 1 := rfl
theorem beyond_hi {am : Nat → Nat → Nat} (h0 : ∀ n, am n 0 = 1) (f : Nat → Nat) {l z : Nat} (h : 0 < z) (hl : z ≤ l) : beyond am f l z = 0 := bey_hi h0 f z l z h hl
theorem beyond_s {am : Nat → Nat → Nat} (h0 : ∀ n, am n 0 = 1) (f : Nat → Nat) {l z : Nat} (h : l < z) : beyond am f l z = ((List.range (z / (l + 1) + 1)).map fun c => am (f l) c * beyond am f (l + 1) (z - c * (l + 1))).sum := by
  obtain ⟨y, rfl⟩ : ∃ y, z = y + 1 := ⟨z - 1, by omega⟩
  unfold beyond
  rw [show bey am f (y + 1) l (y + 1) = if y + 1 = 0 then 1 else ((List.range ((y + 1) / (l + 1) + 1)).map fun c => am (f l) c * bey am f y (l + 1) (y + 1 - c * (l + 1))).sum from rfl, if_neg (by omega)]
  refine sum_congr fun c _ => ?_
  rw [bey_fuel h0 f y (y + 1 - c * (l + 1)) (l + 1) _ (by omega) (by omega)]
def amK : Kd → Nat → Nat → Nat
  | .unlike => ch
  | _ => bg
theorem amK_0 (k : Kd) (n : Nat) : amK k n 0 = 1 := by cases k <;> first | exact bg_0 n | exact ch_0 n
def hd1 (fs : List (Nat → Nat)) : Nat → Nat := fs.headD fun _ => 0
def kcnt (N : Str → Nat → Nat) : Kd → List (Nat → Nat) → Nat → Nat
  | .whole lo hi, _, z => wcnt (hi - lo) z
  | .text x, _, z => x.length ^ z
  | .row, fs, z => rcnt fs z
  | .pick _, fs, z => (fs.map fun f => f z).sum
  | .use _, _, 0 => 0
  | .use n, _, z + 1 => N n z
  | .many, fs, z => mcnt (hd1 fs) z
  | .rising, fs, z => beyond bg (hd1 fs) 0 z
  | .unlike, fs, z => beyond ch (hd1 fs) 0 z
  | .alike t, fs, z => if z < t ∨ z % t ≠ 0 then 0 else hd1 fs (z / t - 1)
mutual
def cnt (N : Str → Nat → Nat) : Sh → Nat → Nat
  | .mk k ps => kcnt N k (cntL N ps)
def cntL (N : Str → Nat → Nat) : List Sh → List (Nat → Nat)
  | [] => []
  | p :: ps => cnt N p :: cntL N ps
end
theorem cntL_map (N : Str → Nat → Nat) : ∀ ps : List Sh, cntL N ps = ps.map (cnt N)
  | [] => rfl
  | p :: ps => by simp only [cntL, List.map_cons, cntL_map N ps]
theorem cntL_len (N : Str → Nat → Nat) (ps : List Sh) : (cntL N ps).length = ps.length := by rw [cntL_map, List.length_map]

/-! ### the makers' places -/
def clsK : Kd → String
  | .whole _ _ => "WholeMaker"
  | .text _ => "TextMaker"
  | .row => "RowMaker"
  | .pick _ => "PickMaker"
  | .use _ => "UseMaker"
  | .many => "ManyMaker"
  | .rising => "RisingMaker"
  | .unlike => "UnlikeMaker"
  | .alike _ => "AlikeMaker"
def xtra : Kd → Nat → Nat
  | .row, m => m + 1
  | .rising, _ => 1
  | .unlike, _ => 1
  | _, _ => 0
mutual
def sz : Sh → Nat
  | .mk k ps => szL ps + (2 + xtra k ps.length)
def szL : List Sh → Nat
  | [] => 0
  | p :: ps => sz p + szL ps
end
def root : Sh → Nat → Nat
  | .mk _ ps, b => b + szL ps
theorem root_mk (k : Kd) (ps : List Sh) (b : Nat) : root (.mk k ps) b = b + szL ps := id rfl
def rootsL : List Sh → Nat → List Nat
  | [], _ => []
  | p :: ps, b => root p b :: rootsL ps (b + sz p)
theorem rootsL_len : ∀ (ps : List Sh) (b : Nat), (rootsL ps b).length = ps.length
  | [], _ => rfl
  | p :: ps, b => by simp [rootsL, rootsL_len ps]
def vals (f : Nat → Nat) (n : Nat) : List D := (List.range n).map fun z => .int (f z : Nat)
theorem vals_len (f : Nat → Nat) (n : Nat) : (vals f n).length = n := by simp [vals]
theorem vals_0 (f : Nat → Nat) : vals f 0 = [] := rfl
theorem vals_s (f : Nat → Nat) (n : Nat) : vals f (n + 1) = vals f n ++ [.int (f n : Nat)] := by simp [vals, List.range_succ]
theorem vals_get (f : Nat → Nat) {n z : Nat} (h : z < n) : (vals f n)[z]? = some (.int (f z : Nat)) := by simp [vals, h]
theorem vals_at (f : Nat → Nat) {n z : Nat} (h : z < n) : atI (vals f n) (z : Int) = some (.int (f z : Nat)) := by
  rw [atI_ofNat _ (by rw [vals_len]; exact h)]
  have e := vals_get f h
  rw [List.getElem?_eq_getElem (by rw [vals_len]; exact h)] at e
  exact e
theorem vals_congr {f g : Nat → Nat} {n : Nat} (h : ∀ z, z < n → f z = g z) : vals f n = vals g n := List.map_congr_left fun z hz => by rw [h z (List.mem_range.mp hz)]
/-- the pairs of a table of lists in order, of the sizes below n -/
def waysZ (am : Nat → Nat → Nat) (f : Nat → Nat) (z : Nat) : List (List Key × D) := (List.range z).reverse.map fun (l : Nat) => ([.inl (l : Int), .inl (z : Int)], D.int (beyond am f l z : Nat))
def ways (am : Nat → Nat → Nat) (f : Nat → Nat) : Nat → List (List Key × D)
  | 0 => []
  | n + 1 => ways am f n ++ waysZ am f n
def fieldsK (k : Kd) (i m nd : Nat) : List (Str × D) := match k with
  | .whole lo hi => [("low", .int lo), ("span", .int (hi - lo))]
  | .text x => [("signs", .str x)]
  | .row => [("rests", .lst ((List.range (m + 1)).map fun j => .ob (i + 2 + j)))]
  | .pick ms => [("marks", .lst (ms.map .str))]
  | .use n => [("named", .ob nd), ("name", .str n)]
  | .many => []
  | .rising => [("ways", .ob (i + 2))]
  | .unlike => [("ways", .ob (i + 2))]
  | .alike t => [("times", .int t)]
def restsO : List (Nat → Nat) → Nat → List O
  | [], n => [.lst (vals (rcnt []) n)]
  | f :: fs, n => .lst (vals (rcnt (f :: fs)) n) :: restsO fs n
def extraO (k : Kd) (fs : List (Nat → Nat)) (n : Nat) : List O := match k with
  | .row => restsO fs n
  | .rising => [.dT (ways bg (hd1 fs) n)]
  | .unlike => [.dT (ways ch (hd1 fs) n)]
  | _ => []
theorem restsO_len : ∀ (fs : List (Nat → Nat)) (n : Nat), (restsO fs n).length = fs.length + 1
  | [], _ => rfl
  | f :: fs, n => by simp [restsO, restsO_len fs]
theorem extraO_len (k : Kd) (fs : List (Nat → Nat)) (n : Nat) : (extraO k fs n).length = xtra k fs.length := by
  cases k <;> first
    | rfl
    | exact restsO_len fs n
def insO (k : Kd) (cs : List Nat) (i nd : Nat) : O := .ins (clsK k) (("within", .lst (cs.map .ob)) :: ("counts", .ob (i + 1)) :: fieldsK k i cs.length nd)
def ownO (N : Str → Nat → Nat) (nd : Nat) (k : Kd) (cs : List Nat) (i : Nat) (fs : List (Nat → Nat)) (n : Nat) : List O := insO k cs i nd :: .lst (vals (kcnt N k fs) n) :: extraO k fs n
theorem ownO_len (N : Str → Nat → Nat) (nd : Nat) (k : Kd) (cs : List Nat) (i : Nat) (fs : List (Nat → Nat)) (n : Nat) : (ownO N nd k cs i fs n).length = 2 + xtra k fs.length := by
  simp [ownO, extraO_len]; omega
mutual
def lay (N : Str → Nat → Nat) (nd : Nat) : Sh → Nat → Nat → List O
  | .mk k ps, b, n => layL N nd ps b n ++ ownO N nd k (rootsL ps b) (b + szL ps) (cntL N ps) n
def layL (N : Str → Nat → Nat) (nd : Nat) : List Sh → Nat → Nat → List O
  | [], _, _ => []
  | p :: ps, b, n => lay N nd p b n ++ layL N nd ps (b + sz p) n
end
mutual
theorem lay_len (N : Str → Nat → Nat) (nd : Nat) : ∀ (sh : Sh) (b n : Nat), (lay N nd sh b n).length = sz sh
  | .mk k ps, b, n => by simp only [lay, sz, List.length_append, ownO_len, cntL_len, layL_len N nd ps b n]
theorem layL_len (N : Str → Nat → Nat) (nd : Nat) : ∀ (ps : List Sh) (b n : Nat), (layL N nd ps b n).length = szL ps
  | [], _, _ => rfl
  | p :: ps, b, n => by simp only [layL, szL, List.length_append, lay_len N nd p b n, layL_len N nd ps (b + sz p) n]
end
/-- from b on stands xs -/
def At (s : Sto) (b : Nat) (xs : List O) : Prop := ∀ (j : Nat) (o : O), xs[j]? = some o → s[b + j]? = some o
theorem At.app {s : Sto} {b : Nat} {xs ys : List O} (h : At s b (xs ++ ys)) : At s b xs ∧ At s (b + xs.length) ys := by
  refine ⟨fun j o e => h j o ?_, fun j o e => ?_⟩
  · have := (List.getElem?_eq_some_iff.mp e).1
    rw [List.getElem?_append_left this]
    exact e
  · rw [Nat.add_assoc]
    exact h _ o (by rw [List.getElem?_append_right (by omega), Nat.add_sub_cancel_left]; exact e)
theorem At.join {s : Sto} {b : Nat} {xs ys : List O} (h : At s b xs) (h2 : At s (b + xs.length) ys) : At s b (xs ++ ys) := fun j o e => by
  by_cases z : j < xs.length
  · rw [List.getElem?_append_left z] at e
    exact h j o e
  · rw [List.getElem?_append_right (by omega)] at e
    have q := h2 _ o e
    rwa [show b + xs.length + (j - xs.length) = b + j by omega] at q
theorem At.cons {s : Sto} {b : Nat} {x : O} {xs : List O} (h : At s b (x :: xs)) : s[b]? = some x ∧ At s (b + 1) xs := ⟨h 0 x rfl, fun j o e => by rw [show b + 1 + j = b + (j + 1) by omega]; exact h (j + 1) o (by simpa using e)⟩
theorem At.more {s : Sto} {b : Nat} {xs : List O} (h : At s b xs) (g : List O) : At (s ++ g) b xs := fun j o e => by
  have q := h j o e
  have := (List.getElem?_eq_some_iff.mp q).1
  rw [List.getElem?_append_left this]
  exact q
theorem At.here (s : Sto) (xs : List O) : At (s ++ xs) s.length xs := fun j o e => by
  rw [List.getElem?_append_right (by omega), Nat.add_sub_cancel_left]
  exact e
theorem At.nil {s : Sto} {b : Nat} : At s b [] := fun j o e => by simp at e
theorem At.mk {s : Sto} {b : Nat} {x : O} {xs : List O} (h : s[b]? = some x) (h2 : At s (b + 1) xs) : At s b (x :: xs) := fun j o e => by
  cases j with
  | zero => simp at e; subst e; exact h
  | succ j =>
    rw [show b + (j + 1) = b + 1 + j by omega]
    exact h2 j o (by simpa using e)
/-! ### books -/
abbrev Bk := List (Str × Sh)
def bookD (bk : Bk) : D := .lst (bk.map fun p => .tup [.str p.1, p.2.d])
def kvsB : Bk → Nat → List (Key × D)
  | [], _ => []
  | (n, p) :: r, b => (.inr n, .ob (root p b)) :: kvsB r (b + sz p)
def layB (N : Str → Nat → Nat) (nd : Nat) : Bk → Nat → Nat → List O
  | [], _, _ => []
  | (_, p) :: r, b, n => lay N nd p b n ++ layB N nd r (b + sz p) n
def szB : Bk → Nat
  | [] => 0
  | (_, p) :: r => sz p + szB r
theorem layB_len (N : Str → Nat → Nat) (nd : Nat) : ∀ (bk : Bk) (b n : Nat), (layB N nd bk b n).length = szB bk
  | [], _, _ => rfl
  | (_, p) :: r, b, n => by simp only [layB, szB, List.length_append, lay_len, layB_len N nd r]
/-- a name's counts: by so many turns -/
def NT (bk : Bk) : Nat → Str → Nat → Nat
  | 0, _, _ => 0
  | k + 1, n, z => match bk.lookup n with
    | some p => cnt (NT bk k) p z
    | none => 0
def NN (bk : Bk) (n : Str) (z : Nat) : Nat := NT bk (z + 1) n z
/-- these agree below z -/
def Agr (f g : Nat → Nat) (z : Nat) : Prop := ∀ j, j ≤ z → f j = g j
theorem rcnt_loc : ∀ {fs gs : List (Nat → Nat)} {z : Nat}, fs.length = gs.length → (∀ (i : Nat) (f g : Nat → Nat), fs[i]? = some f → gs[i]? = some g → Agr f g z) → Agr (rcnt fs) (rcnt gs) z
  | [], [], z, _, _, j, hj => rfl
  | f :: fs, g :: gs, z, hl, h, j, hj => by
    simp only [rcnt]
    refine sum_congr fun i hi => ?_
    rw [h 0 f g rfl rfl i (by omega), rcnt_loc (z := z) (by simpa using hl) (fun i f g e1 e2 => h (i + 1) f g (by simpa using e1) (by simpa using e2)) (j - i) (by omega)]
  | [], g :: gs, z, hl, _, _, _ => by simp at hl
  | f :: fs, [], z, hl, _, _, _ => by simp at hl
theorem mcnt_loc {f g : Nat → Nat} : ∀ {z : Nat}, (∀ j, j < z → f j = g j) → mcnt f z = mcnt g z := by
  intro z
  induction z using Nat.strongRecOn with
  | ind z ih =>
    intro h
    cases z with
    | zero => rfl
    | succ z =>
      rw [mcnt_s, mcnt_s]
      refine sum_congr fun i hi => ?_
      rw [h i hi, ih (z - i) (by omega) fun j hj => h j (by omega)]
theorem bey_loc {am : Nat → Nat → Nat} (h0 : ∀ n, am n 0 = 1) {f g : Nat → Nat} : ∀ {n l z : Nat}, (∀ j, j < z → f j = g j) → bey am f n l z = bey am g n l z
  | 0, l, z, h => rfl
  | n + 1, l, z, h => by
    by_cases hz : z = 0
    · subst hz; rw [bey_0, bey_0]
    · by_cases hl : l < z
      · simp only [bey]
        rw [if_neg hz, if_neg hz]
        refine sum_congr fun c hc => ?_
        rw [h l hl, bey_loc h0 (n := n) (l := l + 1) (z := z - c * (l + 1)) fun j hj => h j (by omega)]
      · rw [bey_hi h0 f _ _ _ (by omega) (by omega), bey_hi h0 g _ _ _ (by omega) (by omega)]
def okB (bk : Bk) : Prop := ∀ p ∈ bk, p.2.ok
theorem lookup_mem : ∀ {bk : Bk} {n : Str} {p : Sh}, bk.lookup n = some p → (n, p) ∈ bk
  | [], _, _, h => by simp at h
  | (m, q) :: r, n, p, h => by
    simp only [List.lookup_cons] at h
    split at h
    · rename_i e
      have e' : n = m := by simpa using e
      simp only [Option.some.injEq] at h
      subst h
      subst e'
      simp
    · exact List.mem_cons_of_mem _ (lookup_mem h)
theorem kcnt_loc {N N' : Str → Nat → Nat} {k : Kd} {fs gs : List (Nat → Nat)} {z : Nat} (hN : ∀ n j, j < z → N n j = N' n j) (hl : fs.length = gs.length) (h : ∀ (i : Nat) (f g : Nat → Nat), fs[i]? = some f → gs[i]? = some g → Agr f g z) : Agr (kcnt N k fs) (kcnt N' k gs) z := by
  have h1 : ∀ j, j ≤ z → hd1 fs j = hd1 gs j := fun j hj => by
    unfold hd1
    cases fs with
    | nil => cases gs with
      | nil => rfl
      | cons g gs => simp at hl
    | cons f fs => cases gs with
      | nil => simp at hl
      | cons g gs => exact h 0 f g rfl rfl j hj
  intro j hj
  cases k with
  | whole lo hi => rfl
  | text x => rfl
  | row => exact rcnt_loc hl h j hj
  | pick ms =>
    show (fs.map fun f => f j).sum = (gs.map fun f => f j).sum
    congr 1
    apply List.ext_getElem?
    intro i
    rw [List.getElem?_map, List.getElem?_map]
    cases e1 : fs[i]? with
    | none =>
      have e2 : gs[i]? = none := by rw [List.getElem?_eq_none_iff] at e1 ⊢; omega
      rw [e2]
    | some f =>
      cases e2 : gs[i]? with
      | none => rw [List.getElem?_eq_none_iff] at e2; have := (List.getElem?_eq_some_iff.mp e1).1; omega
      | some g => simp only [Option.map_some]; rw [h i f g e1 e2 j hj]
  | use n =>
    cases j with
    | zero => rfl
    | succ j => exact hN n j (by omega)
  | many => exact mcnt_loc fun i hi => h1 i (by omega)
  | rising => exact bey_loc bg_0 fun i hi => h1 i (by omega)
  | unlike => exact bey_loc ch_0 fun i hi => h1 i (by omega)
  | alike t =>
    simp only [kcnt]
    split
    · rfl
    · rename_i hz
      have : j / t ≤ j := Nat.div_le_self _ _
      exact h1 _ (by omega)
mutual
theorem cnt_loc {N N' : Str → Nat → Nat} {z : Nat} (hN : ∀ n j, j < z → N n j = N' n j) : ∀ p : Sh, Agr (cnt N p) (cnt N' p) z
  | .mk k ps => kcnt_loc hN (by rw [cntL_len, cntL_len]) (cntL_loc hN ps)
theorem cntL_loc {N N' : Str → Nat → Nat} {z : Nat} (hN : ∀ n j, j < z → N n j = N' n j) : ∀ (ps : List Sh) (i : Nat) (f g : Nat → Nat), (cntL N ps)[i]? = some f → (cntL N' ps)[i]? = some g → Agr f g z
  | [], i, f, g, h, _ => by simp [cntL] at h
  | p :: ps, 0, f, g, h, h2 => by
    simp [cntL] at h h2
    subst h
    subst h2
    exact cnt_loc hN p
  | p :: ps, i + 1, f, g, h, h2 => cntL_loc hN ps i f g (by simpa [cntL] using h) (by simpa [cntL] using h2)
end
theorem NT_st (bk : Bk) : ∀ (z : Nat) (n : Str) (k k' : Nat), z < k → z < k' → NT bk k n z = NT bk k' n z := by
  intro z
  induction z using Nat.strongRecOn with
  | ind z ih =>
    intro n k k' h h'
    obtain ⟨a, rfl⟩ : ∃ a, k = a + 1 := ⟨k - 1, by omega⟩
    obtain ⟨b, rfl⟩ : ∃ b, k' = b + 1 := ⟨k' - 1, by omega⟩
    simp only [NT]
    cases bk.lookup n with
    | none => rfl
    | some p => exact cnt_loc (fun m j hj => ih j hj m a b (by omega) (by omega)) p z (Nat.le_refl _)
theorem NN_eq {bk : Bk} {n : Str} {p : Sh} (h : bk.lookup n = some p) (z : Nat) : NN bk n z = cnt (NN bk) p z := by
  unfold NN
  simp only [NT, h]
  exact cnt_loc (fun m j hj => NT_st bk j m z (j + 1) hj (by omega)) p z (Nat.le_refl _)
end Tb

/-! GTx: texts as lists of signs. -/
namespace Law
open PySem L2 Gs
/-- the text of these signs -/
def St (l : List Nat) : Str := ⟨l.toArray⟩
@[simp] theorem St_tl (l : List Nat) : (St l).cps.toList = l := id rfl
theorem tl_St (x : Str) : St x.cps.toList = x := TL.mk_tl x
theorem St_eq {a b : List Nat} : (St a = St b) = (a = b) := by
  refine propext ⟨fun h => ?_, fun h => by rw [h]⟩
  have := congrArg (fun x : Str => x.cps.toList) h
  simpa using this
@[simp] theorem St_len (l : List Nat) : (St l).length = l.length := by simp [St, Str.length]
@[simp] theorem St_cat (a b : List Nat) : St a ++ St b = St (a ++ b) := TL.ext_tl (TL.tl_append (St a) (St b))
theorem of_St {x : Str} {l : List Nat} (h : x.cps.toList = l) : x = St l := by rw [← h, tl_St]
@[simp] theorem c_nil : Str.ofString "" = St [] := of_St (by decide +kernel)
@[simp] theorem c_opn : Str.ofString "(" = St [40] := of_St (by decide +kernel)
@[simp] theorem c_cls : Str.ofString ")" = St [41] := of_St (by decide +kernel)
@[simp] theorem c_com : Str.ofString "," = St [44] := of_St (by decide +kernel)
@[simp] theorem c_col : Str.ofString ":" = St [58] := of_St (by decide +kernel)
@[simp] theorem c_stop : Str.ofString "()," = St [40, 41, 44] := of_St (by decide +kernel)
def lets : List Nat := (List.range 26).map (97 + ·)
def grts : List Nat := (List.range 26).map (65 + ·)
def figs : List Nat := (List.range 10).map (48 + ·)
@[simp] theorem c_lets : Str.ofString "abcdefghijklmnopqrstuvwxyz" = St lets := of_St (by decide +kernel)
@[simp] theorem c_grts : Str.ofString "ABCDEFGHIJKLMNOPQRSTUVWXYZ" = St grts := of_St (by decide +kernel)
@[simp] theorem c_figs : Str.ofString "0123456789" = St figs := of_St (by decide +kernel)
@[simp] theorem c_dash : Str.ofString "-" = St [45] := of_St (by decide +kernel)
def wsig : List Nat := lets ++ grts ++ figs ++ [45]
@[simp] theorem sg_St (l : List Nat) : signs (St l) = l.map fun c => .str (St [c]) := id rfl
@[simp] theorem v_inS (c : Nat) (l : List Nat) : gIn (.str (St [c])) (.str (St l)) = some (.bl (decide (c ∈ l))) := id rfl
@[simp] theorem v_ninS (c : Nat) (l : List Nat) : gNin (.str (St [c])) (.str (St l)) = some (.bl (!decide (c ∈ l))) := id rfl
@[simp] theorem v_addS (a b : List Nat) : gAdd (.str (St a)) (.str (St b)) = if a.length + b.length ≤ sizeLine then some (.str (St (a ++ b))) else none := by
  simp only [gAdd, St_len, St_cat]
@[simp] theorem v_lenSt (a : List Nat) : gLen [.str (St a)] = if a.length ≤ sizeLine then some (.int a.length) else none := by simp
@[simp] theorem v_slS (a : List Nat) (lo hi : Option Int) : gSl (.str (St a)) lo hi = if a.length ≤ sizeLine then some (.str (St (cutL a lo hi))) else none := by
  have e : cutS (St a) lo hi = St (cutL a lo hi) := of_St (by simp [cutS, cutL])
  simp only [gSl, St_len, e]
theorem v_ixS (a : List Nat) (i : Int) : gIx (.str (St a)) (.int i) = if a.length ≤ sizeLine then (atI a i).map fun c => .str (St [c]) else none := by
  simp only [gIx, St_len, St_tl]
  rfl
theorem lc_signs (l : List Nat) (k : Nat) (e : E) (δ : Sl) (s : Sto) (f : Nat → Bool) (he : ∀ c, e (δ.set k (some (.str (St [c])))) s = .ok (.bl (f c)) s) : lcD (.nm k) tTrue e δ (l.map fun c => .str (St [c])) s = .ok (l.map fun c => D.bl (f c)) s := by
  induction l with
  | nil => rfl
  | cons c l ih => simp [lcD, he, ih]
theorem gAll_map {α : Type} (l : List α) (f : α → Bool) : gAll [.lst (l.map fun c => D.bl (f c))] = some (.bl (l.all f)) := by
  have e : l.map (fun c => D.bl (f c)) = (l.map f).map D.bl := by simp
  have e2 : ∀ l : List α, (l.map f).all (fun b => b) = l.all f := fun l => by
    induction l with
    | nil => rfl
    | cons c l ih => simp [ih]
  rw [e]
  simp only [gAll, blsOf_map, Option.map_some, e2]
theorem at_St {T : List Nat} {j c : Nat} (hl : T.length ≤ sizeLine) (h : T[j]? = some c) : gIx (.str (St T)) (.int (j : Int)) = some (.str (St [c])) := by
  obtain ⟨h1, h2⟩ := List.getElem?_eq_some_iff.mp h
  rw [v_ixS, if_pos hl, atI_ofNat T h1, h2]
  rfl
/-! with the length shown small; simp (disch := (simp only [List.length_append, List.length_cons, List.length_nil, St_len]; omega)) -/
theorem d_addS (a b : List Nat) (h : a.length + b.length ≤ 100000) : gAdd (.str (St a)) (.str (St b)) = some (.str (St (a ++ b))) := by
  rw [v_addS, if_pos (small_line (by omega))]
theorem d_lenS (a : List Nat) (h : a.length ≤ 100000) : gLen [.str (St a)] = some (.int a.length) := by
  rw [v_lenSt, if_pos (small_line (by omega))]
theorem d_slS (a : List Nat) (lo hi : Option Int) (h : a.length ≤ 100000) : gSl (.str (St a)) lo hi = some (.str (St (cutL a lo hi))) := by
  rw [v_slS, if_pos (small_line (by omega))]
end Law

/-! VOa: values of shapes (any kind), their sizes and order, as plain functions. -/
namespace Law
open PySem L2 Gs MCh Tb
def bitN (i : Int) : Nat := Builtin.Int.intBits i
/-- the first that is not nought -/
def fnz : List Int → Int
  | [] => 0
  | x :: r => if x = 0 then fnz r else x
def sgn (i : Int) : Int := if 0 < i then 1 else if i < 0 then -1 else 0
def zw (f : D → D → Int) : List D → List D → List Int
  | x :: xs, y :: ys => f x y :: zw f xs ys
  | _, _ => []
def zw3 (f : Sh → D → D → Int) : List Sh → List D → List D → List Int
  | p :: ps, x :: xs, y :: ys => f p x y :: zw3 f ps xs ys
  | _, _, _ => []
def zsum (f : Sh → D → Nat) : List Sh → List D → Nat
  | p :: ps, x :: xs => f p x + zsum f ps xs
  | _, _ => 0
/-- the branch of a mark: its place and shape -/
def brn : List Str → List Sh → Str → Option (Nat × Sh)
  | m :: ms, p :: ps, x => if m = x then some (0, p) else (brn ms ps x).map fun q => (q.1 + 1, q.2)
  | _, _, _ => none
def hdS (ps : List Sh) : Sh := ps.headD (.mk .row [])
/-- the size -/
def mzF (bk : Bk) : Nat → Sh → D → Nat
  | 0, _, _ => 0
  | d + 1, .mk k ps, v => match k, v with
    | .whole lo _, .int i => bitN (i - lo)
    | .text _, .str x => x.length
    | .row, .tup vs => zsum (mzF bk d) ps vs
    | .pick ms, .tup [.str m, u] => (match brn ms ps m with
      | some q => mzF bk d q.2 u
      | none => 0)
    | .use n, v => (match bk.lookup n with
      | some p => 1 + mzF bk d p v
      | none => 0)
    | .many, .lst vs => (vs.map fun u => 1 + mzF bk d (hdS ps) u).sum
    | .rising, .lst vs => (vs.map fun u => 1 + mzF bk d (hdS ps) u).sum
    | .unlike, .lst vs => (vs.map fun u => 1 + mzF bk d (hdS ps) u).sum
    | .alike _, .lst vs => (vs.map fun u => 1 + mzF bk d (hdS ps) u).sum
    | _, _ => 0
/-- the places of signs -/
def plc (x : List Nat) (c : Nat) : Int := (x.idxOf c : Nat)
def txO (x : List Nat) : List Nat → List Nat → Int
  | a :: as, b :: bs => if a = b then txO x as bs else sgn (plc x a - plc x b)
  | _, _ => 0
/-- lists by heaps: m the size, o the order of things -/
def hpO (m : D → Nat) (o : D → D → Int) (xs ys : List D) : Int :=
  fnz ((sortU ((xs ++ ys).map fun u => (m u : Int))).map fun z =>
    if (xs.filter fun u => decide ((m u : Int) = z)).length = (ys.filter fun u => decide ((m u : Int) = z)).length
    then fnz (zw o (xs.filter fun u => decide ((m u : Int) = z)).reverse (ys.filter fun u => decide ((m u : Int) = z)).reverse)
    else sgn ((xs.filter fun u => decide ((m u : Int) = z)).length - (ys.filter fun u => decide ((m u : Int) = z)).length))
def ordF (bk : Bk) : Nat → Sh → D → D → Int
  | 0, _, _, _ => 0
  | d + 1, .mk k ps, v, w => if mzF bk (d + 1) (.mk k ps) v = mzF bk (d + 1) (.mk k ps) w then (match k, v, w with
    | .whole _ _, .int i, .int j => sgn (i - j)
    | .text x, .str a, .str b => txO x.cps.toList a.cps.toList b.cps.toList
    | .row, .tup vs, .tup ws => fnz (zw3 (ordF bk d) ps vs ws)
    | .pick ms, .tup [.str a, u], .tup [.str b, u'] => (match brn ms ps a, brn ms ps b with
      | some q, some r => if q.1 = r.1 then ordF bk d q.2 u u' else sgn (q.1 - r.1)
      | _, _ => 0)
    | .use n, v, w => (match bk.lookup n with
      | some p => ordF bk d p v w
      | none => 0)
    | .rising, .lst vs, .lst ws => hpO (mzF bk d (hdS ps)) (ordF bk d (hdS ps)) vs ws
    | .unlike, .lst vs, .lst ws => hpO (mzF bk d (hdS ps)) (ordF bk d (hdS ps)) vs ws
    | .alike _, .lst (x :: _), .lst (y :: _) => ordF bk d (hdS ps) x y
    | .many, .lst vs, .lst ws => fnz (zw (ordF bk d (hdS ps)) vs ws)
    | _, _, _ => 0)
    else sgn (mzF bk (d + 1) (.mk k ps) v - mzF bk (d + 1) (.mk k ps) w)
/-- each two neighbours -/
def nbr (o : D → D → Int) (m : Int) : List D → Prop
  | x :: y :: r => o x y ≤ m ∧ nbr o m (y :: r)
  | _ => True
def all2 (f : Sh → D → Prop) : List Sh → List D → Prop
  | [], [] => True
  | p :: ps, x :: xs => f p x ∧ all2 f ps xs
  | _, _ => False
/-- at most seven unlike sizes -/
def few (m : D → Nat) (xs : List D) : Prop := ∃ L : List Nat, L.length ≤ 7 ∧ ∀ u ∈ xs, m u ∈ L
/-- v is a value of the shape, to the depth d -/
def Vd (bk : Bk) : Nat → Sh → D → Prop
  | 0, _, _ => False
  | d + 1, .mk k ps, v => match k with
    | .whole lo hi => ∃ i, v = .int i ∧ lo ≤ i ∧ i ≤ hi
    | .text x => ∃ l, v = .str (St l) ∧ l.length ≤ 1000 ∧ ∀ c ∈ l, c ∈ x.cps.toList
    | .row => ∃ vs, v = .tup vs ∧ vs.length ≤ 1000 ∧ all2 (Vd bk d) ps vs
    | .pick ms => ∃ m u q, v = .tup [.str m, u] ∧ brn ms ps m = some q ∧ Vd bk d q.2 u
    | .use n => ∃ p, bk.lookup n = some p ∧ Vd bk d p v
    | .many => ∃ vs, v = .lst vs ∧ vs.length ≤ 1000 ∧ ∀ u ∈ vs, Vd bk d (hdS ps) u
    | .rising => ∃ vs, v = .lst vs ∧ vs.length ≤ 1000 ∧ (∀ u ∈ vs, Vd bk d (hdS ps) u) ∧ nbr (ordF bk d (hdS ps)) 0 vs ∧ few (mzF bk d (hdS ps)) vs
    | .unlike => ∃ vs, v = .lst vs ∧ vs.length ≤ 1000 ∧ (∀ u ∈ vs, Vd bk d (hdS ps) u) ∧ nbr (ordF bk d (hdS ps)) (-1) vs ∧ few (mzF bk d (hdS ps)) vs
    | .alike t => ∃ u, v = .lst (List.replicate t u) ∧ t ≤ 1000 ∧ Vd bk d (hdS ps) u
theorem vd_rsv {bk : Bk} : ∀ {d : Nat} {p : Sh} {v : D}, Vd bk d p v → ∀ s : Sto, rsv s v = v
  | 0, _, _, h, _ => h.elim
  | d + 1, .mk k ps, v, h, s => by
    cases k with
    | whole lo hi => obtain ⟨i, rfl, _⟩ := h; rfl
    | text x => obtain ⟨l, rfl, _⟩ := h; rfl
    | row => obtain ⟨vs, rfl, _⟩ := h; rfl
    | pick ms => obtain ⟨m, u, q, rfl, _⟩ := h; rfl
    | use n => obtain ⟨p, _, h⟩ := h; exact vd_rsv h s
    | many => obtain ⟨vs, rfl, _⟩ := h; rfl
    | rising => obtain ⟨vs, rfl, _⟩ := h; rfl
    | unlike => obtain ⟨vs, rfl, _⟩ := h; rfl
    | alike t => obtain ⟨vs, rfl, _⟩ := h; rfl
theorem sgn_0 {i : Int} : sgn i = 0 ↔ i = 0 := by unfold sgn; split <;> (try split) <;> omega
end Law

/-! VOb: a name's shape, a mark's place, the size of a value. -/
namespace Law
open PySem L2 Gs MCh Tb
theorem fd_nx {p : Pt} {body : S} {d : D} {ds : List D} {δ δ1 δ2 : Sl} {s s2 : Sto} (h1 : bindP p d δ = some δ1) (h2 : body δ1 s = .nx δ2 s2) : forD p body (d :: ds) δ s = forD p body ds δ2 s2 := by
  simp only [forD, h1, h2]
theorem fd_rt {p : Pt} {body : S} {d : D} {ds : List D} {δ δ1 : Sl} {s s2 : Sto} {x : D} (h1 : bindP p d δ = some δ1) (h2 : body δ1 s = .rt x s2) : forD p body (d :: ds) δ s = .rt x s2 := by
  simp only [forD, h1, h2]
theorem sq2 {f g : S} {δ δ' : Sl} {s s' : Sto} {r : RS} (h : f δ s = .nx δ' s') (h2 : g δ' s' = r) : sSeq f g δ s = r := by simp only [v_sSeq, h, h2]
theorem sq_rt {f g : S} {δ : Sl} {s s' : Sto} {x : D} (h : f δ s = .rt x s') : sSeq f g δ s = .rt x s' := by simp only [v_sSeq, h]
theorem shape_loop {n : Str} {p : Sh} {B : D} {s : Sto} : ∀ (bk : Bk) (y z : Option D), bk.lookup n = some p →
    forD (.tp [.nm 2, .nm 3]) L_shape_of_0 (bk.map fun p => .tup [.str p.1, p.2.d]) [some B, some (.str n), y, z] s = .rt p.d s
  | [], _, _, h => nomatch h
  | (m, q) :: r, y, z, h => by
    rw [List.lookup_cons] at h
    have hb : bindP (.tp [.nm 2, .nm 3]) (.tup [.str m, q.d]) [some B, some (.str n), y, z] = some [some B, some (.str n), some (.str m), some q.d] := by simp
    rw [List.map_cons]
    by_cases e : n = m
    · subst e
      simp only [beq_self_eq_true, Option.some.injEq] at h
      subst h
      exact fd_rt hb (by simp [L_shape_of_0])
    · have e1 : (n == m) = false := beq_eq_false_iff_ne.mpr e
      have e2 : ¬ m = n := fun z => e z.symm
      rw [e1] at h
      rw [fd_nx hb (δ2 := [some B, some (.str n), some (.str m), some q.d]) (s2 := s) (by simp [L_shape_of_0, e2])]
      exact shape_loop r (some (.str m)) (some q.d) h
theorem shapeof_val {bk : Bk} {n : Str} {p : Sh} (h : bk.lookup n = some p) (s : Sto) : S_shape_of [bookD bk, .str n] s = .ok p.d s := by
  have e := shape_loop (B := bookD bk) (s := s) bk none none h
  apply runG_rt
  refine sq_rt ?_
  simp [bookD] at e ⊢
  exact e
def brD (ms : List Str) (ps : List Sh) : List D := List.zipWith (fun m d => .tup [.str m, d]) ms (dL ps)
theorem place_loop {m : Str} {B : D} {s : Sto} : ∀ (ms : List Str) (ps : List Sh) (k : Nat) (y z : Option D), ms.length = ps.length →
    (∀ q, brn ms ps m = some q → forD (.tp [.nm 2, .nm 3]) L_place_of_0 (((brD ms ps).zipIdx k).map fun p => .tup [.int (p.2 : Nat), p.1]) [some B, some (.str m), y, z] s = .rt (.int ((k + q.1 : Nat) : Int)) s) ∧
    (brn ms ps m = none → ∃ y' z', forD (.tp [.nm 2, .nm 3]) L_place_of_0 (((brD ms ps).zipIdx k).map fun p => .tup [.int (p.2 : Nat), p.1]) [some B, some (.str m), y, z] s = .nx [some B, some (.str m), y', z'] s)
  | [], [], _, y, z, _ => ⟨fun q h => (nomatch h), fun _ => ⟨y, z, rfl⟩⟩
  | x :: ms, p :: ps, k, y, z, h => by
    obtain ⟨i1, i2⟩ := place_loop (m := m) (B := B) (s := s) ms ps (k + 1) (some (.int (k : Nat))) (some (.tup [.str x, p.d])) (by simpa using h)
    have hb : (brD (x :: ms) (p :: ps)).zipIdx k = (.tup [.str x, p.d], k) :: (brD ms ps).zipIdx (k + 1) := by simp [brD, dL]
    have hp : bindP (.tp [.nm 2, .nm 3]) (.tup [.int (k : Nat), .tup [.str x, p.d]]) [some B, some (.str m), y, z] = some [some B, some (.str m), some (.int (k : Nat)), some (.tup [.str x, p.d])] := by simp
    have s2 : 2 ≤ sizeLine := by decide
    rw [hb, List.map_cons]
    by_cases e : x = m
    · subst e
      refine ⟨fun q hq => ?_, fun hq => ?_⟩
      · simp only [brn, if_pos, Option.some.injEq] at hq
        subst hq
        exact fd_rt hp (by simp [L_place_of_0])
      · simp [brn] at hq
    · rw [fd_nx hp (δ2 := [some B, some (.str m), some (.int (k : Nat)), some (.tup [.str x, p.d])]) (s2 := s) (by simp [L_place_of_0, e])]
      refine ⟨fun q hq => ?_, fun hq => ?_⟩
      · simp only [brn, if_neg e] at hq
        obtain ⟨q', h1, rfl⟩ := Option.map_eq_some_iff.mp hq
        rw [i1 q' h1]
        have : k + 1 + q'.1 = k + (q'.1 + 1) := by omega
        rw [this]
      · simp only [brn, if_neg e] at hq
        exact i2 (Option.map_eq_none_iff.mp hq)
  | [], _ :: _, _, _, _, h => by simp at h
  | _ :: _, [], _, _, _, h => by simp at h
theorem placeof_val {ms : List Str} {ps : List Sh} (hl : ms.length = ps.length) (m : Str) (s : Sto) : S_place_of [.tup (brD ms ps), .str m] s = .ok (.int (match brn ms ps m with | some q => (q.1 : Int) | none => -1)) s := by
  obtain ⟨h1, h2⟩ := place_loop (m := m) (B := .tup (brD ms ps)) (s := s) ms ps 0 none none hl
  apply runG_rt
  cases q : brn ms ps m with
  | some q' =>
    have h := h1 q' q
    refine sq_rt ?_
    simp [enumD] at h ⊢
    exact h
  | none =>
    obtain ⟨y, z, h⟩ := h2 q
    refine sq2 (δ' := [some (.tup (brD ms ps)), some (.str m), y, z]) (s' := s) ?_ (by simp)
    simp [enumD] at h ⊢
    exact h
end Law

/-! VOc: the size of a value, as the program measures it. -/
namespace Law
open PySem L2 Gs MCh Tb
/-- all shapes of the book are good -/
def okBk (bk : Bk) : Prop := ∀ n p, bk.lookup n = some p → p.ok
theorem okL_hd {k : Kd} {p : Sh} {ps : List Sh} (h : okL (p :: ps)) : p.ok ∧ okL ps := h
theorem lcN {i : Nat} {δ : Sl} {s : Sto} {e : E} (g : D → D) : ∀ xs : List D, (∀ x ∈ xs, e (δ.set i (some x)) s = .ok (g x) s) → lcD (.nm i) tTrue e δ xs s = .ok (xs.map g) s
  | [], _ => rfl
  | x :: xs, h => by
    have e1 := h x List.mem_cons_self
    have ih := lcN g xs fun y hy => h y (List.mem_cons_of_mem _ hy)
    simp only [lcD, v_nm, v_tTrue, e1, ih, List.map_cons]
theorem ints_nat {α : Type} (f : α → Nat) : ∀ xs : List α, intsOf (xs.map fun x => D.int (f x : Nat)) = some (xs.map fun x => ((f x : Nat) : Int))
  | [] => rfl
  | x :: xs => by simp [intsOf, ints_nat f xs]
theorem isum_nat {α : Type} (f : α → Nat) : ∀ xs : List α, (xs.map fun x => ((f x : Nat) : Int)).sum = (((xs.map f).sum : Nat) : Int)
  | [] => rfl
  | x :: xs => by simp [isum_nat f xs]
theorem gsum_nat {α : Type} (f : α → Nat) (xs : List α) : gSumA [.lst (xs.map fun x => D.int (f x : Nat))] = some (.int (((xs.map f).sum : Nat) : Int)) := by
  rw [v_sumA_lst, ints_nat, Option.map_some, isum_nat]
def mS (B : D) (n : Nat) (p : D) (v : D) (z : Nat) : Prop := ∀ s : Sto, S_measured n [B, p, v] s = .ok (.int (z : Int)) s
theorem all2_len {f : Sh → D → Prop} : ∀ {ps : List Sh} {vs : List D}, all2 f ps vs → ps.length = vs.length
  | [], [], _ => rfl
  | p :: ps, x :: xs, h => by simp [all2_len h.2]
  | [], _ :: _, h => h.elim
  | _ :: _, [], h => h.elim
theorem row_lc {n : Nat} {B : D} {m : Sh → D → Nat} {y3 y4 : Option D} {s : Sto} {P V : D} : ∀ (ps : List Sh) (vs : List D), all2 (fun p v => mS B n p.d v (m p v)) ps vs →
    ∃ zs : List Nat, lcD (.tp [.nm 3, .nm 4]) tTrue (eCall (S_measured n) (aCons (eV 0) (aCons (eV 3) (aCons (eV 4) aNil)))) [some B, some P, some V, y3, y4] (zipD (dL ps) vs) s = .ok (zs.map fun z => .int (z : Nat)) s ∧ zs.length = vs.length ∧ zs.sum = zsum m ps vs
  | [], [], _ => ⟨[], rfl, rfl, rfl⟩
  | p :: ps, x :: xs, h => by
    obtain ⟨zs, e1, e2, e3⟩ := row_lc (y3 := y3) (y4 := y4) (s := s) (P := P) (V := V) ps xs h.2
    have h1 : eCall (S_measured n) (aCons (eV 0) (aCons (eV 3) (aCons (eV 4) aNil))) [some B, some P, some V, some p.d, some x] s = .ok (.int (m p x : Nat)) s := by
      have := h.1 s
      simp [this]
    refine ⟨m p x :: zs, ?_, by simp [e2], by simp [zsum, e3]⟩
    show lcD _ _ _ _ (D.tup [p.d, x] :: zipD (dL ps) xs) s = _
    simp only [lcD]
    rw [show bindP (.tp [.nm 3, .nm 4]) (.tup [p.d, x]) [some B, some P, some V, y3, y4] = some [some B, some P, some V, some p.d, some x] by simp]
    simp only [v_tTrue, h1, e1, List.map_cons]
  | [], _ :: _, h => h.elim
  | _ :: _, [], h => h.elim
theorem tl_sz {l : List Nat} : (St l).length = l.length := St_len l
theorem all2_imp {f g : Sh → D → Prop} : ∀ {ps : List Sh} {vs : List D}, (∀ p ∈ ps, ∀ v, f p v → g p v) → all2 f ps vs → all2 g ps vs
  | [], [], _, _ => trivial
  | p :: ps, x :: xs, h, a => ⟨h p List.mem_cons_self x a.1, all2_imp (fun q hq => h q (List.mem_cons_of_mem _ hq)) a.2⟩
  | [], _ :: _, _, a => a.elim
  | _ :: _, [], _, a => a.elim
theorem brn_at : ∀ {ms : List Str} {ps : List Sh} {m : Str} {q : Nat × Sh}, brn ms ps m = some q → (brD ms ps)[q.1]? = some (.tup [.str m, q.2.d]) ∧ q.2 ∈ ps
  | x :: ms, p :: ps, m, q, h => by
    by_cases e : x = m
    · subst e
      simp only [brn, if_pos, Option.some.injEq] at h
      subst h
      exact ⟨by simp [brD, dL], List.mem_cons_self⟩
    · simp only [brn, if_neg e] at h
      obtain ⟨q', h1, rfl⟩ := Option.map_eq_some_iff.mp h
      obtain ⟨a1, a2⟩ := brn_at h1
      refine ⟨?_, List.mem_cons_of_mem _ a2⟩
      have : brD (x :: ms) (p :: ps) = .tup [.str x, p.d] :: brD ms ps := by simp [brD, dL]
      rw [this]
      exact a1
  | [], _, _, _, h => nomatch h
  | _ :: _, [], _, _, h => nomatch h
theorem ix_at {xs : List D} {k : Nat} {x : D} (h : xs[k]? = some x) : gIx (.tup xs) (.int (k : Int)) = some x := by
  have hl := (List.getElem?_eq_some_iff.mp h).1
  show atI xs (k : Int) = _
  rw [atI_ofNat _ hl, ← List.getElem?_eq_getElem hl]
  exact h
theorem okL_mem' : ∀ {ps : List Sh} {p : Sh}, okL ps → p ∈ ps → p.ok
  | q :: ps, p, h, m => by
    rcases List.mem_cons.mp m with rfl | m
    · exact h.1
    · exact okL_mem' h.2 m
theorem sl_k {n : Nat} (h : n ≤ 1000) : n ≤ sizeLine := Nat.le_trans h (by decide)
theorem list_case {n d : Nat} {bk : Bk} {q : Sh} {w : Str} {vs : List D} {r : List D} (hl : vs.length ≤ 1000) (h : ∀ u ∈ vs, mS (bookD bk) n q.d u (mzF bk d q u))
    (hw : w ≠ Str.ofString "whole" ∧ w ≠ Str.ofString "text" ∧ w ≠ Str.ofString "row" ∧ w ≠ Str.ofString "pick" ∧ w ≠ Str.ofString "use") (hr : r.length ≤ 1) :
    mS (bookD bk) (n + 1) (.tup (.str w :: q.d :: r)) (.lst vs) ((vs.map fun u => 1 + mzF bk d q u).sum) := fun s => by
  have sl := sl_k hl
  have e := lcN (i := 4) (s := s) (δ := [some (bookD bk), some (.tup (.str w :: q.d :: r)), some (.lst vs), none, none]) (e := eBin gAdd (eC (.int 1)) (eCall (S_measured n) (aCons (eV 0) (aCons (eBin gIx (eV 1) (eC (.int 1))) (aCons (eV 4) aNil))))) (fun u => .int ((1 + mzF bk d q u : Nat) : Int)) vs fun u hu => by
    have h1 := h u hu s
    have h2 : gIx (.tup (.str w :: q.d :: r)) (.int 1) = some q.d := by rcases r with _ | ⟨x, _ | _⟩ <;> simp at hr ⊢
    have r0 : rsv s (.tup (.str w :: q.d :: r)) = .tup (.str w :: q.d :: r) := rfl
    generalize D.tup (D.str w :: q.d :: r) = P at h2 r0 ⊢
    simp [h1, h2, r0]
  have su := gsum_nat (fun u => 1 + mzF bk d q u) vs
  have g0 : gIx (.tup (.str w :: q.d :: r)) (.int 0) = some (.str w) := by rcases r with _ | ⟨x, _ | _⟩ <;> simp at hr ⊢
  have r0 : rsv s (.tup (.str w :: q.d :: r)) = .tup (.str w :: q.d :: r) := rfl
  show U_measured (S_measured n) _ s = _
  apply runG_rt
  generalize D.tup (D.str w :: q.d :: r) = P at *
  generalize bookD bk = B at *
  obtain ⟨w1, w2, w3, w4, w5⟩ := hw
  obtain ⟨L, hL⟩ : ∃ L, vs.map (fun u => D.int ((1 + mzF bk d q u : Nat) : Int)) = L := ⟨_, rfl⟩
  have lL : L.length ≤ sizeLine := by rw [← hL, List.length_map]; exact sl
  rw [hL] at e su
  generalize (((vs.map fun u => 1 + mzF bk d q u).sum : Nat) : Int) = Z at *
  simp only [gSumA] at su
  simp (decide := true) [r0, g0, w1, w2, w3, w4, w5, wipeD, e, lL, su]
theorem meas_val {bk : Bk} (hb : okBk bk) : ∀ (d : Nat) (p : Sh) (v : D) (n : Nat), p.ok → Vd bk d p v → d ≤ n → mS (bookD bk) n p.d v (mzF bk d p v)
  | 0, _, _, _, _, h, _ => h.elim
  | d + 1, .mk k ps, v, 0, _, _, hn => by omega
  | d + 1, .mk k ps, v, n + 1, ok, h, hn => by
    have ih := fun p (hp : p.ok) v (hv : Vd bk d p v) => meas_val hb d p v n hp hv (by omega)
    have okp := ok.2
    have okk := ok.1
    cases k with
    | whole lo hi =>
      obtain ⟨i, rfl, _⟩ := h
      intro s
      show U_measured (S_measured n) _ s = _
      apply runG_rt
      simp (decide := true) [Sh.d, kd, mzF, bitN]
    | text x =>
      obtain ⟨l, rfl, hl, _⟩ := h
      intro s
      have := sl_k hl
      show U_measured (S_measured n) _ s = _
      apply runG_rt
      simp (decide := true) [Sh.d, kd, mzF, this]
    | row =>
      obtain ⟨vs, rfl, hl, h⟩ := h
      intro s
      obtain ⟨zs, e1, e2, e3⟩ := row_lc (n := n) (B := bookD bk) (m := mzF bk d) (y3 := none) (y4 := none) (s := s) (P := Sh.d (.mk .row ps)) (V := .tup vs) ps vs (all2_imp (fun p hp v hv => ih p (okL_mem' okp hp) v hv) h)
      have sl := sl_k (n := zs.length) (by omega)
      have su := gsum_nat (fun z : Nat => z) zs
      rw [List.map_id'] at su
      have e4 : mzF bk (d + 1) (.mk .row ps) (.tup vs) = zsum (mzF bk d) ps vs := rfl
      rw [e4, ← e3]
      show U_measured (S_measured n) _ s = _
      apply runG_rt
      simp only [Sh.d, kd] at e1 ⊢
      generalize bookD bk = B at *
      simp (decide := true) [wipeD, e1, sl, su]
    | pick ms =>
      obtain ⟨m, u, q, rfl, hq, hv⟩ := h
      intro s
      obtain ⟨a1, a2⟩ := brn_at hq
      have e := ih q.2 (okL_mem' okp a2) u hv s
      have pl := placeof_val (ms := ms) (ps := ps) okk.1 m s
      rw [hq] at pl
      have a3 := ix_at a1
      have e4 : mzF bk (d + 1) (.mk (.pick ms) ps) (.tup [.str m, u]) = mzF bk d q.2 u := by simp only [mzF, hq]
      rw [e4]
      have ed : Sh.d (.mk (.pick ms) ps) = .tup [.str "pick", .tup (brD ms ps)] := rfl
      rw [ed]
      show U_measured (S_measured n) _ s = _
      apply runG_rt
      simp only at pl
      generalize brD ms ps = bs at *
      generalize bookD bk = B at *
      generalize (q.1 : Int) = kk at *
      have s2 : 2 ≤ sizeLine := by decide
      have ru : rsv s u = u := vd_rsv hv s
      simp (decide := true) [pl, a3, e, ru]
    | use nm =>
      obtain ⟨p, hp, hv⟩ := h
      intro s
      have e := ih p (hb nm p hp) v hv s
      have sh := shapeof_val hp s
      have e4 : mzF bk (d + 1) (.mk (.use nm) ps) v = 1 + mzF bk d p v := by cases v <;> simp only [mzF, hp]
      rw [e4]
      have ed : Sh.d (.mk (.use nm) ps) = .tup [.str "use", .str nm] := rfl
      rw [ed]
      have ru : rsv s v = v := vd_rsv hv s
      show U_measured (S_measured n) _ s = _
      apply runG_rt
      generalize bookD bk = B at *
      generalize p.d = P at *
      simp (decide := true) [sh, e, ru]
    | many =>
      obtain ⟨vs, rfl, hl, hv⟩ := h
      match ps, okk, okp with
      | [q], _, okp =>
        have := list_case (n := n) (d := d) (bk := bk) (q := q) (w := Str.ofString "many") (r := []) hl (fun u hu => ih q okp.1 u (hv u hu)) (by decide) (by simp)
        exact this
    | rising =>
      obtain ⟨vs, rfl, hl, hv, _⟩ := h
      match ps, okk, okp with
      | [q], _, okp => exact list_case (n := n) (d := d) (bk := bk) (q := q) (w := Str.ofString "rising") (r := []) hl (fun u hu => ih q okp.1 u (hv u hu)) (by decide) (by simp)
    | unlike =>
      obtain ⟨vs, rfl, hl, hv, _⟩ := h
      match ps, okk, okp with
      | [q], _, okp => exact list_case (n := n) (d := d) (bk := bk) (q := q) (w := Str.ofString "unlike") (r := []) hl (fun u hu => ih q okp.1 u (hv u hu)) (by decide) (by simp)
    | alike t =>
      obtain ⟨u, rfl, ht, hv⟩ := h
      match ps, okk.1, okp with
      | [q], _, okp => exact list_case (n := n) (d := d) (bk := bk) (q := q) (w := Str.ofString "alike") (r := [.int t]) (by simpa using ht) (fun x hx => by rw [List.eq_of_mem_replicate hx]; exact ih q okp.1 u hv) (by decide) (by simp)
end Law

/-! VOd: parts of the order: signs, texts, rows. -/
namespace Law
open PySem L2 Gs MCh Tb
theorem idx_le {c : Nat} : ∀ (l : List Nat) (i : Nat), l[i]? = some c → l.idxOf c ≤ i
  | [], i, h => by simp at h
  | x :: l, 0, h => by
    cases h
    simp
  | x :: l, i + 1, h => by
    have := idx_le l i (by simpa using h)
    rw [List.idxOf_cons]
    cases x == c <;> simp <;> omega
theorem find_at {l : List Nat} {c : Nat} (h : c ∈ l) : Txt.find (St l) (St [c]) = ((l.idxOf c : Nat) : Int) := by
  have key : ∀ i : Nat, (i + (St [c]).length ≤ (St l).length ∧ Builtin.Str.subAt (St l) (St [c]) i = true) ↔ l[i]? = some c := fun i => StrLaws.subAt_one (St l) c i
  have hlt := List.idxOf_lt_length_iff.mpr h
  have hg : l[l.idxOf c]? = some c := by rw [List.getElem?_eq_getElem hlt, List.getElem_idxOf]
  unfold Txt.find
  rcases StrLaws.occ_head (St l) (St [c]) 1 (Nat.le_refl 1) with ⟨_, hn⟩ | ⟨i, r, e, ha, hm⟩
  · exact absurd ((key _).mpr hg) (hn _)
  · rw [e]
    show ((i : Nat) : Int) = _
    have hi : l[i]? = some c := (key i).mp ha
    have e2 : i = l.idxOf c := by
      rcases Nat.lt_trichotomy i (l.idxOf c) with z | z | z
      · have := idx_le l i hi
        omega
      · exact z
      · exact absurd ((key _).mpr hg) (hm _ z)
    rw [e2]
theorem sign_val (i : Int) (s : Sto) : S_sign_of [.int i] s = .ok (.int (sgn i)) s := by
  apply runG_rt
  unfold sgn
  by_cases h : 0 < i
  · have h2 : ¬ i < 0 := by omega
    simp [h, h2, gInt]
  · by_cases h2 : i < 0
    · simp [h, h2, gInt]
    · simp [h, h2, gInt]
theorem text_loop {x : List Nat} {X A B : D} {s : Sto} (hX : X = .str (St x)) : ∀ (a b : List Nat) (y z : Option D), (∀ c ∈ a, c ∈ x) → (∀ c ∈ b, c ∈ x) →
    (txO x a b ≠ 0 → forD (.tp [.nm 3, .nm 4]) L_order_of_texts_0 (zipD (a.map fun c => .str (St [c])) (b.map fun c => .str (St [c]))) [some X, some A, some B, y, z] s = .rt (.int (txO x a b)) s) ∧
    (txO x a b = 0 → ∃ y' z', forD (.tp [.nm 3, .nm 4]) L_order_of_texts_0 (zipD (a.map fun c => .str (St [c])) (b.map fun c => .str (St [c]))) [some X, some A, some B, y, z] s = .nx [some X, some A, some B, y', z'] s)
  | [], b, y, z, _, _ => ⟨fun h => absurd rfl h, fun _ => ⟨y, z, by simp [zipD, forD]⟩⟩
  | _ :: _, [], y, z, _, _ => ⟨fun h => absurd rfl h, fun _ => ⟨y, z, by simp [zipD, forD]⟩⟩
  | c :: a, e :: b, y, z, ha, hb => by
    obtain ⟨i1, i2⟩ := text_loop (A := A) (B := B) (s := s) hX a b (some (.str (St [c]))) (some (.str (St [e]))) (fun q m => ha q (List.mem_cons_of_mem _ m)) (fun q m => hb q (List.mem_cons_of_mem _ m))
    have f1 := find_at (ha c List.mem_cons_self)
    have f2 := find_at (hb e List.mem_cons_self)
    have hp : bindP (.tp [.nm 3, .nm 4]) (.tup [.str (St [c]), .str (St [e])]) [some X, some A, some B, y, z] = some [some X, some A, some B, some (.str (St [c])), some (.str (St [e]))] := by simp
    have hz : zipD ((c :: a).map fun c => D.str (St [c])) ((e :: b).map fun c => .str (St [c])) = .tup [.str (St [c]), .str (St [e])] :: zipD (a.map fun c => .str (St [c])) (b.map fun c => .str (St [c])) := rfl
    rw [hz]
    by_cases q : c = e
    · subst q
      rw [show txO x (c :: a) (c :: b) = txO x a b by simp [txO]]
      rw [fd_nx hp (δ2 := [some X, some A, some B, some (.str (St [c])), some (.str (St [c]))]) (s2 := s) (by simp [L_order_of_texts_0])]
      exact ⟨i1, i2⟩
    · rw [show txO x (c :: a) (e :: b) = sgn (plc x c - plc x e) by simp [txO, q]]
      have hne : sgn (plc x c - plc x e) ≠ 0 := by
        rw [Ne, sgn_0]
        intro w
        apply q
        have : x.idxOf c = x.idxOf e := by unfold plc at w; omega
        have g1 := List.getElem_idxOf (List.idxOf_lt_length_iff.mpr (ha c List.mem_cons_self))
        have g2 := List.getElem_idxOf (List.idxOf_lt_length_iff.mpr (hb e List.mem_cons_self))
        rw [← g1, ← g2]
        simp [this]
      refine ⟨fun _ => fd_rt hp ?_, fun w => absurd w hne⟩
      have sv := sign_val (plc x c - plc x e) s
      unfold plc at sv ⊢
      subst hX
      have g1 : gFind (.str (St x)) [.str (St [c])] = some (.int ((x.idxOf c : Nat) : Int)) := by show some (D.int (Txt.find _ _)) = _; rw [f1]
      have g2 : gFind (.str (St x)) [.str (St [e])] = some (.int ((x.idxOf e : Nat) : Int)) := by show some (D.int (Txt.find _ _)) = _; rw [f2]
      have n1 : gNe (.str (St [c])) (.str (St [e])) = some (.bl true) := by simp [St_eq, q]
      generalize St [c] = C1 at *
      generalize St [e] = C2 at *
      generalize St x = X1 at *
      generalize ((x.idxOf c : Nat) : Int) = k1 at *
      generalize ((x.idxOf e : Nat) : Int) = k2 at *
      simp [L_order_of_texts_0, n1, g1, g2, sv]
theorem texts_val {x a b : List Nat} (ha : ∀ c ∈ a, c ∈ x) (hb : ∀ c ∈ b, c ∈ x) (s : Sto) : S_order_of_texts [.str (St x), .str (St a), .str (St b)] s = .ok (.int (txO x a b)) s := by
  obtain ⟨h1, h2⟩ := text_loop (X := .str (St x)) (A := .str (St a)) (B := .str (St b)) (s := s) rfl a b none none ha hb
  apply runG_rt
  by_cases q : txO x a b = 0
  · obtain ⟨y, z, h⟩ := h2 q
    rw [q]
    refine sq2 (δ' := [some (.str (St x)), some (.str (St a)), some (.str (St b)), y, z]) (s' := s) ?_ (by simp)
    simp at h ⊢
    exact h
  · refine sq_rt ?_
    have h := h1 q
    simp at h ⊢
    exact h
/-- the order of two values, as the program says; the store may grow -/
def oS (n : Nat) (B p v w : D) (z : Int) : Prop := ∀ s : Sto, ∃ g, S_order n [B, p, v, w] s = .ok (.int z) (s ++ g)
def seqD (V : D) (vs : List D) : Prop := V = .tup vs ∨ V = .lst vs
theorem seqD_ix {V : D} {vs : List D} (h : seqD V vs) {k : Nat} {x : D} (e : vs[k]? = some x) (hl : vs.length ≤ 1000) : gIx V (.int (k : Int)) = some x := by
  have hk := (List.getElem?_eq_some_iff.mp e).1
  rcases h with rfl | rfl
  · exact ix_at e
  · have e2 : atI vs (k : Int) = some x := by
      rw [atI_ofNat _ hk, ← List.getElem?_eq_getElem hk]
      exact e
    simp [sl_k hl, e2]
theorem seqD_rsv {V : D} {vs : List D} (h : seqD V vs) (s : Sto) : rsv s V = V := by rcases h with rfl | rfl <;> rfl
theorem seqD_len {V : D} {vs : List D} (h : seqD V vs) : gLen [V] = some (.int (vs.length : Nat)) := by rcases h with rfl | rfl <;> rfl
theorem rows_loop {n : Nat} {B P V W : D} {Ps vs ws : List D} {zs : List Int} (hP : seqD P Ps) (hV : seqD V vs) (hW : seqD W ws) (lP : Ps.length ≤ 1000) (lV : vs.length ≤ 1000) (lW : ws.length ≤ 1000) {N : Nat} (hz : zs.length = N) (h1 : N ≤ Ps.length) (h2 : N ≤ vs.length) (h3 : N ≤ ws.length)
    (ho : ∀ (k : Nat) p v w z, Ps[k]? = some p → vs[k]? = some v → ws[k]? = some w → zs[k]? = some z → oS n B p v w z)
    (c2 c3 c4 : List D → Sto → R D) : ∀ (j k : Nat) (y4 y5 : Option D) (s : Sto), k + j = N → ∃ g,
    (fnz (zs.drop k) ≠ 0 → forD (.nm 4) (L_order_of_rows_0 (S_order n) c2 c3 c4) ((List.range' k j).map fun (i : Nat) => .int ((0 : Int) + (i : Int))) [some B, some P, some V, some W, y4, y5] s = .rt (.int (fnz (zs.drop k))) (s ++ g)) ∧
    (fnz (zs.drop k) = 0 → ∃ y4' y5', forD (.nm 4) (L_order_of_rows_0 (S_order n) c2 c3 c4) ((List.range' k j).map fun (i : Nat) => .int ((0 : Int) + (i : Int))) [some B, some P, some V, some W, y4, y5] s = .nx [some B, some P, some V, some W, y4', y5'] (s ++ g))
  | 0, k, y4, y5, s, hk => by
    have e : zs.drop k = [] := List.drop_eq_nil_of_le (by omega)
    rw [e]
    exact ⟨[], fun w => absurd rfl w, fun _ => ⟨y4, y5, by simp [forD]⟩⟩
  | j + 1, k, y4, y5, s, hk => by
    obtain ⟨p, ep⟩ : ∃ p, Ps[k]? = some p := ⟨_, List.getElem?_eq_getElem (by omega)⟩
    obtain ⟨v, ev⟩ : ∃ v, vs[k]? = some v := ⟨_, List.getElem?_eq_getElem (by omega)⟩
    obtain ⟨w, ew⟩ : ∃ w, ws[k]? = some w := ⟨_, List.getElem?_eq_getElem (by omega)⟩
    obtain ⟨z, ez⟩ : ∃ z, zs[k]? = some z := ⟨_, List.getElem?_eq_getElem (by omega)⟩
    obtain ⟨g1, e1⟩ := ho k p v w z ep ev ew ez s
    obtain ⟨g2, i1, i2⟩ := rows_loop hP hV hW lP lV lW hz h1 h2 h3 ho c2 c3 c4 j (k + 1) (some (.int (k : Int))) (some (.int z)) (s ++ g1) (by omega)
    have ed : zs.drop k = z :: zs.drop (k + 1) := by
      obtain ⟨hl, hg⟩ := List.getElem?_eq_some_iff.mp ez
      rw [List.drop_eq_getElem_cons hl, hg]
    have hb : ∀ y4 y5, bindP (.nm 4) (.int ((0 : Int) + (k : Int))) [some B, some P, some V, some W, y4, y5] = some [some B, some P, some V, some W, some (.int (k : Int)), y5] := fun y4 y5 => by simp
    have rP := seqD_rsv hP s
    have rV := seqD_rsv hV s
    have rW := seqD_rsv hW s
    have xP := seqD_ix hP ep lP
    have xV := seqD_ix hV ev lV
    have xW := seqD_ix hW ew lW
    rw [List.range'_succ, List.map_cons, ed]
    by_cases q : z = 0
    · subst q
      refine ⟨g1 ++ g2, ?_⟩
      rw [show fnz (0 :: zs.drop (k + 1)) = fnz (zs.drop (k + 1)) by simp [fnz]]
      rw [fd_nx (hb y4 y5) (δ2 := [some B, some P, some V, some W, some (.int (k : Int)), some (.int 0)]) (s2 := s ++ g1) (by
        generalize ((k : Nat) : Int) = kk at *
        simp [L_order_of_rows_0, rP, rV, rW, xP, xV, xW, e1]), ← List.append_assoc]
      exact ⟨i1, i2⟩
    · rw [show fnz (z :: zs.drop (k + 1)) = z by simp [fnz, q]]
      refine ⟨g1, fun _ => fd_rt (hb y4 y5) ?_, fun w => absurd w q⟩
      generalize ((k : Nat) : Int) = kk at *
      simp [L_order_of_rows_0, rP, rV, rW, xP, xV, xW, e1, q]
theorem rows_val {n : Nat} {B P V W : D} {Ps vs ws : List D} {zs : List Int} (hP : seqD P Ps) (hV : seqD V vs) (hW : seqD W ws) (lP : Ps.length ≤ 1000) (lV : vs.length ≤ 1000) (lW : ws.length ≤ 1000) (hz : zs.length = min vs.length ws.length) (h1 : min vs.length ws.length ≤ Ps.length)
    (ho : ∀ (k : Nat) p v w z, Ps[k]? = some p → vs[k]? = some v → ws[k]? = some w → zs[k]? = some z → oS n B p v w z) (s : Sto) : ∃ g, S_order_of_rows (n + 1) [B, P, V, W] s = .ok (.int (fnz zs)) (s ++ g) := by
  obtain ⟨g, a1, a2⟩ := rows_loop (B := B) hP hV hW lP lV lW hz h1 (Nat.min_le_left ..) (Nat.min_le_right ..) ho (S_order_of_heaps n) (S_order_of_picks n) (S_order_of_rows n) (min vs.length ws.length) 0 none none s (by omega)
  rw [List.drop_zero] at a1 a2
  have er : rngD 0 (min vs.length ws.length) = (List.range' 0 (min vs.length ws.length)).map fun (i : Nat) => D.int ((0 : Int) + (i : Int)) := by unfold rngD; rw [List.range_eq_range']
  have rV := seqD_rsv hV s
  have rW := seqD_rsv hW s
  have nV := seqD_len hV
  have nW := seqD_len hW
  have hmin : (if (ws.length : Int) < (vs.length : Int) then (ws.length : Int) else (vs.length : Int)) = ((min vs.length ws.length : Nat) : Int) := by split <;> omega
  have rk : rngOk ((min vs.length ws.length : Nat) : Int) := rngOk_nat (by omega)
  have tn : ((min vs.length ws.length : Nat) : Int).toNat = min vs.length ws.length := rfl
  refine ⟨g, ?_⟩
  show U_order_of_rows (S_order n) (S_order_of_heaps n) (S_order_of_picks n) (S_order_of_rows n) _ s = _
  apply runG_rt
  have hi : ∀ δ : Sl, δ = [some B, some P, some V, some W, none, none] → (iRange1 (aCons (eFn gMin2 (aCons (eFn gLen (aCons (eV 2) aNil)) (aCons (eFn gLen (aCons (eV 3) aNil)) aNil))) aNil)) δ s = .ok (rngD 0 (min vs.length ws.length)) s := fun δ e => by
    subst e
    have q1 : (eFn gMin2 (aCons (eFn gLen (aCons (eV 2) aNil)) (aCons (eFn gLen (aCons (eV 3) aNil)) aNil))) [some B, some P, some V, some W, none, none] s = .ok (.int ((min vs.length ws.length : Nat) : Int)) s := by
      rw [← hmin]
      simp [rV, rW, nV, nW, gMin2]
    generalize ((min vs.length ws.length : Nat) : Int) = m at *
    generalize eFn gMin2 _ = e at *
    simp [q1, rk, tn]
  by_cases q : fnz zs = 0
  · obtain ⟨y4, y5, h⟩ := a2 q
    rw [q]
    refine sq2 (δ' := [some B, some P, some V, some W, y4, y5]) (s' := s ++ g) ?_ (by simp)
    rw [← er] at h
    show sFor _ _ _ [some B, some P, some V, some W, none, none] s = _
    rw [v_sFor, hi _ rfl]
    exact h
  · refine sq_rt ?_
    have h := a1 q
    rw [← er] at h
    show sFor _ _ _ [some B, some P, some V, some W, none, none] s = _
    rw [v_sFor, hi _ rfl]
    exact h
end Law

/-! VOe: the things of a list by their sizes. -/
namespace Law
open PySem L2 Gs MCh Tb
def hf (m : D → Nat) (z : Int) (xs : List D) : List D := xs.filter fun u => decide ((m u : Int) = z)
/-- the dict at i holds lists of the store, by sizes -/
structure Hps (m : D → Nat) (xs : List D) (i : Nat) (kvs : List (Key × D)) (S : Sto) : Prop where
  at_ : S[i]? = some (.dK kvs)
  nd : (kvs.map (·.1)).Nodup
  kv : ∀ p ∈ kvs, ∃ (z : Nat) (j : Nat), p = (.inl (z : Int), .ob j) ∧ i < j ∧ S[j]? = some (.lst (hf m z xs)) ∧ ∃ u ∈ xs, m u = z
  all : ∀ u ∈ xs, (.inl (m u : Int) : Key) ∈ kvs.map (·.1)
  inj : ∀ p ∈ kvs, ∀ q ∈ kvs, p.2 = q.2 → p = q
theorem Hps.more {m : D → Nat} {xs : List D} {i : Nat} {kvs : List (Key × D)} {S : Sto} (h : Hps m xs i kvs S) (g : Sto) : Hps m xs i kvs (S ++ g) := by
  have k : ∀ {j : Nat} {o : O}, S[j]? = some o → (S ++ g)[j]? = some o := fun {j o} e => by
    rw [List.getElem?_append_left (List.getElem?_eq_some_iff.mp e).1]; exact e
  refine ⟨k h.at_, h.nd, fun p hp => ?_, h.all, h.inj⟩
  obtain ⟨z, j, e, h1, h2, h3⟩ := h.kv p hp
  exact ⟨z, j, e, h1, k h2, h3⟩
theorem valD_some {kvs : List (Key × D)} {k : Key} {d : D} (nd : (kvs.map (·.1)).Nodup) (h : (k, d) ∈ kvs) : valD kvs k = some d := by
  unfold valD
  induction kvs with
  | nil => exact absurd h List.not_mem_nil
  | cons p r ih =>
    rw [List.map_cons, List.nodup_cons] at nd
    rw [List.find?_cons]
    rcases List.mem_cons.mp h with e | hr
    · subst e; simp
    · have : ¬ p.1 = k := fun e => nd.1 (by rw [e]; exact List.mem_map_of_mem hr)
      simp only [this, decide_false]
      exact ih nd.2 hr
theorem valD_none {kvs : List (Key × D)} {k : Key} (h : k ∉ kvs.map (·.1)) : valD kvs k = none := by
  unfold valD
  rw [Option.map_eq_none_iff, List.find?_eq_none]
  intro p hp e
  exact h (by rw [← of_decide_eq_true e]; exact List.mem_map_of_mem hp)
theorem Hps.get {m : D → Nat} {xs : List D} {i : Nat} {kvs : List (Key × D)} {S : Sto} (h : Hps m xs i kvs S) (z : Nat) :
    (∃ j, valD kvs (.inl (z : Int)) = some (.ob j) ∧ i < j ∧ S[j]? = some (.lst (hf m z xs)) ∧ ((.inl (z : Int) : Key), D.ob j) ∈ kvs) ∨ (valD kvs (.inl (z : Int)) = none ∧ hf m z xs = [] ∧ (.inl (z : Int) : Key) ∉ kvs.map (·.1)) := by
  by_cases c : (.inl (z : Int) : Key) ∈ kvs.map (·.1)
  · obtain ⟨p, hp, e⟩ := List.mem_map.mp c
    obtain ⟨z', j, e2, h1, h2, h3⟩ := h.kv p hp
    subst e2
    have : z' = z := by
      have : (Sum.inl (z' : Int) : Key) = Sum.inl (z : Int) := e
      have := Sum.inl.inj this
      omega
    subst this
    exact .inl ⟨j, valD_some h.nd hp, h1, h2, hp⟩
  · refine .inr ⟨valD_none c, ?_, c⟩
    unfold hf
    rw [List.filter_eq_nil_iff]
    intro u hu e
    have e' : (m u : Int) = z := of_decide_eq_true e
    exact c (by rw [← e']; exact h.all u hu)
theorem putKD_none {kvs : List (Key × D)} {k : Key} {d : D} (h : k ∉ kvs.map (·.1)) : putKD kvs k d = kvs ++ [(k, d)] := by
  unfold putKD
  rw [if_neg]
  intro z
  rw [List.any_eq_true] at z
  obtain ⟨x, hx, e⟩ := z
  exact h (by rw [← of_decide_eq_true e]; exact List.mem_map_of_mem hx)
theorem hf_snoc_same {m : D → Nat} {u : D} {xs : List D} {z : Nat} (h : m u = z) : hf m z (xs ++ [u]) = hf m z xs ++ [u] := by
  unfold hf
  rw [List.filter_append]
  congr 1
  simp [h]
theorem hf_snoc_ne {m : D → Nat} {u : D} {xs : List D} {z : Nat} (h : m u ≠ z) : hf m z (xs ++ [u]) = hf m z xs := by
  unfold hf
  rw [List.filter_append]
  have : ¬ (m u : Int) = z := by omega
  simp [this]
theorem hf_len (m : D → Nat) (z : Int) (xs : List D) : (hf m z xs).length ≤ xs.length := List.length_filter_le _ _
/-- one thing more -/
theorem Hps.step {m : D → Nat} {xs : List D} {i : Nat} {kvs : List (Key × D)} {S : Sto} (h : Hps m xs i kvs S) (u : D) :
    (∃ j, valD kvs (.inl (m u : Int)) = some (.ob j) ∧ S[j]? = some (.lst (hf m (m u) xs)) ∧ j < S.length ∧ Hps m (xs ++ [u]) i kvs (S.set j (.lst (hf m (m u) xs ++ [u])))) ∨
    (valD kvs (.inl (m u : Int)) = none ∧ Hps m (xs ++ [u]) i (putKD kvs (.inl (m u : Int)) (.ob S.length)) (((S ++ [O.lst []]).set i (O.dK (putKD kvs (.inl (m u : Int)) (.ob S.length)))).set S.length (O.lst [u]))) := by
  have hi := (List.getElem?_eq_some_iff.mp h.at_).1
  rcases h.get (m u) with ⟨j, e, h1, h2, hm⟩ | ⟨e, e0, hn⟩
  · have hj := (List.getElem?_eq_some_iff.mp h2).1
    refine .inl ⟨j, e, h2, hj, ?_, h.nd, fun p hp => ?_, fun v hv => ?_, h.inj⟩
    · rw [List.getElem?_set_ne (by omega)]; exact h.at_
    · obtain ⟨z, j', e2, q1, q2, w, hw, hwz⟩ := h.kv p hp
      refine ⟨z, j', e2, q1, ?_, w, List.mem_append_left _ hw, hwz⟩
      by_cases c : j = j'
      · subst c
        have : p = (.inl (m u : Int), .ob j) := h.inj p hp _ hm (by rw [e2])
        rw [e2] at this
        have hz : (z : Int) = m u := Sum.inl.inj (Prod.mk.inj this).1
        have hz' : m u = z := by omega
        rw [List.getElem?_set_self hj, hf_snoc_same hz', hz']
      · rw [List.getElem?_set_ne c]
        have : m u ≠ z := fun ez => by
          subst ez
          have e3 := valD_some h.nd hp
          rw [e2] at hp
          have e3 := valD_some h.nd hp
          rw [e] at e3
          cases e3
          exact c rfl
        rw [hf_snoc_ne this]
        exact q2
    · rcases List.mem_append.mp hv with hv | hv
      · exact h.all v hv
      · obtain rfl := List.mem_singleton.mp hv
        exact List.mem_map_of_mem hm
  · have ep : putKD kvs (.inl (m u : Int)) (.ob S.length) = kvs ++ [(.inl (m u : Int), .ob S.length)] := putKD_none hn
    refine .inr ⟨e, ?_⟩
    rw [ep]
    have up : ∀ {j : Nat} {o : O}, j ≠ i → S[j]? = some o → ((((S ++ [O.lst []]).set i (.dK (kvs ++ [(.inl (m u : Int), .ob S.length)]))).set S.length (.lst [u])))[j]? = some o := fun {j o} hj ej => by
      have hl := (List.getElem?_eq_some_iff.mp ej).1
      rw [List.getElem?_set_ne (by omega), List.getElem?_set_ne (Ne.symm hj), List.getElem?_append_left hl]
      exact ej
    refine ⟨?_, ?_, fun p hp => ?_, fun v hv => ?_, fun p hp q hq epq => ?_⟩
    · rw [List.getElem?_set_ne (by omega), List.getElem?_set_self (by simp; omega)]
    · rw [List.map_append, List.nodup_append]
      refine ⟨h.nd, by simp, fun a ha b hb => ?_⟩
      simp at hb
      subst hb
      exact fun z => hn (z ▸ ha)
    · rcases List.mem_append.mp hp with hp | hp
      · obtain ⟨z, j', e2, q1, q2, w, hw, hwz⟩ := h.kv p hp
        refine ⟨z, j', e2, q1, ?_, w, List.mem_append_left _ hw, hwz⟩
        have : m u ≠ z := fun ez => by
          subst ez
          exact hn (by rw [e2] at hp; exact List.mem_map_of_mem hp)
        rw [up (by omega) q2, hf_snoc_ne this]
      · obtain rfl := List.mem_singleton.mp hp
        refine ⟨m u, S.length, rfl, hi, ?_, u, by simp, rfl⟩
        rw [List.getElem?_set_self (by simp), hf_snoc_same rfl, e0]
        rfl
    · rw [List.map_append, List.mem_append]
      rcases List.mem_append.mp hv with hv | hv
      · exact .inl (h.all v hv)
      · obtain rfl := List.mem_singleton.mp hv
        exact .inr (by simp)
    · have lt : ∀ r ∈ kvs, ∀ k, r.2 = .ob k → k < S.length := fun r hr k ek => by
        obtain ⟨z, j', e2, q1, q2, _⟩ := h.kv r hr
        rw [e2] at ek
        cases ek
        exact (List.getElem?_eq_some_iff.mp q2).1
      rcases List.mem_append.mp hp with hp | hp <;> rcases List.mem_append.mp hq with hq | hq
      · exact h.inj p hp q hq epq
      · obtain rfl := List.mem_singleton.mp hq
        have := lt p hp _ epq
        omega
      · obtain rfl := List.mem_singleton.mp hp
        have := lt q hq _ epq.symm
        omega
      · rw [List.mem_singleton.mp hp, List.mem_singleton.mp hq]
theorem Hps.small {m : D → Nat} {xs : List D} {i : Nat} {kvs : List (Key × D)} {S : Sto} (h : Hps m xs i kvs S) (hf' : few m xs) : kvs.length ≤ 7 ∧ keysI kvs = true := by
  constructor
  · obtain ⟨L, hL, hm⟩ := hf'
    have key : ∀ (ks : List Key) (L : List Nat), ks.Nodup → (∀ k ∈ ks, ∃ z ∈ L, k = .inl (z : Int)) → ks.length ≤ L.length := by
      intro ks
      induction ks with
      | nil => intro L _ _; simp
      | cons k r ih =>
        intro L nd hk
        obtain ⟨z, hz, rfl⟩ := hk k List.mem_cons_self
        rw [List.nodup_cons] at nd
        have := ih (L.erase z) nd.2 fun q hq => by
          obtain ⟨y, hy, rfl⟩ := hk q (List.mem_cons_of_mem _ hq)
          refine ⟨y, ?_, rfl⟩
          rw [List.mem_erase_of_ne]
          · exact hy
          · rintro rfl
            exact nd.1 hq
        rw [List.length_erase_of_mem hz] at this
        have : 0 < L.length := List.length_pos_of_mem hz
        simp only [List.length_cons]
        omega
    have := key (kvs.map (·.1)) L h.nd fun k hk => by
      obtain ⟨p, hp, rfl⟩ := List.mem_map.mp hk
      obtain ⟨z, j, e, _, _, u, hu, hz⟩ := h.kv p hp
      exact ⟨z, by rw [← hz]; exact hm u hu, by rw [e]⟩
    rw [List.length_map] at this
    omega
  · unfold keysI
    rw [List.all_eq_true]
    intro p hp
    obtain ⟨z, j, e, _⟩ := h.kv p hp
    rw [e]
theorem dkO_at' {S : Sto} {i : Nat} {kvs : List (Key × D)} (h : S[i]? = some (.dK kvs)) : dkO S (.ob i) = some kvs := by unfold dkO; simp only [h]
theorem heaps_loop {m : D → Nat} {B P V : D} {i : Nat} {s : Sto} (hi : i = s.length) : ∀ (ys xs : List D) (kvs : List (Key × D)) (g : Sto) (y4 : Option D), xs.length + ys.length ≤ 1000 → (∀ u ∈ ys, mS B 20 P u (m u)) → Hps m xs i kvs (s ++ .dK kvs :: g) →
    ∃ y4' kvs' g', forD (.nm 4) L_heaps_0 ys [some B, some P, some V, some (.ob i), y4] (s ++ .dK kvs :: g) = .nx [some B, some P, some V, some (.ob i), y4'] (s ++ .dK kvs' :: g') ∧ Hps m (xs ++ ys) i kvs' (s ++ .dK kvs' :: g')
  | [], xs, kvs, g, y4, _, _, h => ⟨y4, kvs, g, rfl, by rw [List.append_nil]; exact h⟩
  | u :: ys, xs, kvs, g, y4, hl, hm, h => by
    subst hi
    rw [List.length_cons] at hl
    have hb : bindP (.nm 4) u [some B, some P, some V, some (.ob s.length), y4] = some [some B, some P, some V, some (.ob s.length), some u] := by simp
    have me := hm u List.mem_cons_self (s ++ .dK kvs :: g)
    have kl : kvs.length < sizeLine := Nat.lt_of_le_of_lt (m := 1000) (by
      have key : ∀ (ks : List Key) (l : List D), ks.Nodup → (∀ k ∈ ks, ∃ v ∈ l, k = .inl (m v : Int)) → ks.length ≤ l.length := by
        intro ks
        induction ks with
        | nil => intro l _ _; simp
        | cons k r ih =>
          intro l nd hk
          obtain ⟨v, hv, rfl⟩ := hk k List.mem_cons_self
          rw [List.nodup_cons] at nd
          have := ih (l.filter fun w => decide (m w ≠ m v)) nd.2 fun q hq => by
            obtain ⟨w, hw, rfl⟩ := hk q (List.mem_cons_of_mem _ hq)
            refine ⟨w, List.mem_filter.mpr ⟨hw, decide_eq_true fun e => nd.1 (by rw [← e]; exact hq)⟩, rfl⟩
          have h2 : (l.filter fun w => decide (m w ≠ m v)).length < l.length := by
            rcases Nat.lt_or_ge (l.filter fun w => decide (m w ≠ m v)).length l.length with c | c
            · exact c
            · have e := List.filter_eq_self.mp (List.Sublist.eq_of_length_le List.filter_sublist c)
              have := e v hv
              simp at this
          simp only [List.length_cons]
          omega
      have := key (kvs.map (·.1)) xs h.nd fun k hk => by
        obtain ⟨p, hp, rfl⟩ := List.mem_map.mp hk
        obtain ⟨z, j, e, _, _, u, hu, hz⟩ := h.kv p hp
        exact ⟨u, hu, by rw [e, hz]⟩
      rw [List.length_map] at this
      omega) (by decide)
    have dk := dkO_at' h.at_
    have dk2 : dkO ((s ++ O.dK kvs :: g) ++ [.lst []]) (.ob s.length) = some kvs := dkO_at' (h.more [.lst []]).at_
    have at2 : ((s ++ O.dK kvs :: g) ++ [O.lst []])[s.length]? = some (.dK kvs) := (h.more [.lst []]).at_
    rcases h.step u with ⟨j, e, hj, hjl, hs⟩ | ⟨e, hs⟩
    · have hjs : s.length < j := by
        rcases h.get (m u) with ⟨j', e', h1, _⟩ | ⟨e', _⟩
        · rw [e] at e'; cases e'; exact h1
        · rw [e] at e'; exact nomatch e'
      have ls : lsO ((s ++ O.dK kvs :: g) ++ [.lst []]) (.ob j) = some (hf m (m u) xs) := lsO_ob (by rw [List.getElem?_append_left hjl]; exact hj)
      have hsl : (hf m (m u) xs).length < sizeLine := Nat.lt_of_le_of_lt (hf_len m _ xs) (Nat.lt_of_le_of_lt (m := 1000) (by omega) (by decide))
      have es : ((s ++ O.dK kvs :: g) ++ [O.lst []]).set j (.lst (hf m (m u) xs ++ [u])) = s ++ .dK kvs :: ((g.set (j - s.length - 1) (.lst (hf m (m u) xs ++ [u]))) ++ [.lst []]) := by
        rw [List.set_append_left _ _ hjl, List.set_append_right _ _ (by omega)]
        obtain ⟨k, hk⟩ : ∃ k, j - s.length = k + 1 := ⟨j - s.length - 1, by omega⟩
        rw [hk]
        simp
      have ess : (s ++ O.dK kvs :: g).set j (.lst (hf m (m u) xs ++ [u])) = s ++ .dK kvs :: (g.set (j - s.length - 1) (.lst (hf m (m u) xs ++ [u]))) := by
        rw [List.set_append_right _ _ (by omega)]
        obtain ⟨k, hk⟩ : ∃ k, j - s.length = k + 1 := ⟨j - s.length - 1, by omega⟩
        rw [hk]
        simp
      rw [ess] at hs
      have hs2 := hs.more [.lst []]
      rw [List.append_assoc, List.cons_append] at hs2
      obtain ⟨y4', kvs', g', i1, i2⟩ := heaps_loop (m := m) (B := B) (P := P) (V := V) (s := s) rfl ys (xs ++ [u]) kvs _ (some u) (by simp; omega) (fun v hv => hm v (List.mem_cons_of_mem _ hv)) hs2
      refine ⟨y4', kvs', g', ?_, by rw [List.append_assoc] at i2; exact i2⟩
      rw [fd_nx hb (δ2 := [some B, some P, some V, some (.ob s.length), some u]) (s2 := s ++ .dK kvs :: ((g.set (j - s.length - 1) (.lst (hf m (m u) xs ++ [u]))) ++ [.lst []])) ?_]
      · exact i1
      · rw [← es]
        generalize (s ++ O.dK kvs :: g) = S0 at *
        generalize s.length = i0 at *
        simp [L_heaps_0, dk, me, keyD, at2, kl, e, ls, hsl]
    · obtain ⟨n0, hn0⟩ : ∃ n0, (s ++ O.dK kvs :: g).length = n0 := ⟨_, rfl⟩
      rw [hn0] at hs
      obtain ⟨kv2, hk2⟩ : ∃ kv2, putKD kvs (.inl (m u : Int)) (.ob n0) = kv2 := ⟨_, rfl⟩
      rw [hk2] at hs
      have e1 : ((s ++ O.dK kvs :: g) ++ [O.lst []]).set s.length (O.dK kv2) = (s ++ O.dK kv2 :: g) ++ [O.lst []] := by simp
      have hn2 : (s ++ O.dK kv2 :: g).length = n0 := by rw [← hn0]; simp
      rw [e1] at hs
      have ls : lsO ((s ++ O.dK kv2 :: g) ++ [O.lst []]) (.ob n0) = some [] := lsO_ob (by
        rw [← hn2, List.getElem?_append_right (Nat.le_refl _)]; simp)
      have s0 : 0 < sizeLine := by decide
      have es : ((s ++ O.dK kv2 :: g) ++ [O.lst []]).set n0 (O.lst [u]) = s ++ .dK kv2 :: (g ++ [.lst [u]]) := by
        rw [← hn2, List.set_append_right _ _ (Nat.le_refl _)]
        simp
      rw [es] at hs
      obtain ⟨y4', kvs', g', i1, i2⟩ := heaps_loop (m := m) (B := B) (P := P) (V := V) (s := s) rfl ys (xs ++ [u]) _ _ (some u) (by simp; omega) (fun v hv => hm v (List.mem_cons_of_mem _ hv)) hs
      refine ⟨y4', kvs', g', ?_, by rw [List.append_assoc] at i2; exact i2⟩
      rw [fd_nx hb (δ2 := [some B, some P, some V, some (.ob s.length), some u]) (s2 := s ++ .dK kv2 :: (g ++ [.lst [u]])) ?_]
      · exact i1
      · rw [← es]
        rw [← e1] at ls ⊢
        generalize (s ++ O.dK kvs :: g) = S0 at *
        generalize s.length = i0 at *
        simp [L_heaps_0, dk, me, keyD, at2, kl, e, ls, s0, hn0, hk2]
theorem heaps_val {m : D → Nat} {B P : D} (xs : List D) (hl : xs.length ≤ 1000) (hm : ∀ u ∈ xs, mS B 20 P u (m u)) (s : Sto) : ∃ kvs g, S_heaps [B, P, .lst xs] s = .ok (.ob s.length) (s ++ .dK kvs :: g) ∧ Hps m xs s.length kvs (s ++ .dK kvs :: g) := by
  obtain ⟨y4, kvs, g, e, h⟩ := heaps_loop (m := m) (B := B) (P := P) (V := .lst xs) (s := s) rfl xs [] [] [] none (by simpa using hl) hm ⟨by simp, by simp, (fun p hp => absurd hp List.not_mem_nil), (fun u hu => absurd hu List.not_mem_nil), fun p hp => absurd hp List.not_mem_nil⟩
  refine ⟨kvs, g, ?_, by simpa using h⟩
  apply runG_rt
  refine sq2 (δ' := [some B, some P, some (.lst xs), some (.ob s.length), none]) (s' := s ++ [.dK []]) (by simp) ?_
  refine sq2 (δ' := [some B, some P, some (.lst xs), some (.ob s.length), y4]) (s' := s ++ .dK kvs :: g) ?_ (by simp)
  simp
  exact e
end Law

/-! VOf: lists in order compared; any two values compared. -/
namespace Law
open PySem L2 Gs MCh Tb
/-- what one size says -/
def hz1 (m : D → Nat) (o : D → D → Int) (xs ys : List D) (z : Int) : Int :=
  if (hf m z xs).length = (hf m z ys).length then fnz (zw o (hf m z xs).reverse (hf m z ys).reverse) else sgn ((hf m z xs).length - (hf m z ys).length)
theorem hpO_eq (m : D → Nat) (o : D → D → Int) (xs ys : List D) : hpO m o xs ys = fnz ((sortU ((xs ++ ys).map fun u => (m u : Int))).map (hz1 m o xs ys)) := rfl
theorem zw_len (o : D → D → Int) : ∀ xs ys : List D, (zw o xs ys).length = min xs.length ys.length
  | [], _ => by simp [zw]
  | _ :: _, [] => by simp [zw]
  | x :: xs, y :: ys => by simp [zw, zw_len o xs ys]
theorem zw_get {o : D → D → Int} : ∀ {xs ys : List D} {k : Nat} {z : Int}, (zw o xs ys)[k]? = some z → ∀ {x y : D}, xs[k]? = some x → ys[k]? = some y → z = o x y
  | [], _, k, z, h, _, _, _, _ => by simp [zw] at h
  | _ :: _, [], k, z, h, _, _, _, _ => by simp [zw] at h
  | x :: xs, y :: ys, 0, z, h, a, b, e1, e2 => by simp [zw] at h e1 e2; rw [← h, e1, e2]
  | x :: xs, y :: ys, k + 1, z, h, a, b, e1, e2 => zw_get (xs := xs) (ys := ys) (k := k) (by simpa [zw] using h) (by simpa using e1) (by simpa using e2)
theorem lcO_const {q : Wk} {i : Nat} {δ : Sl} {s : Sto} {e : E} {d : D} (hs : Stl q s) : ∀ xs : List D, (∀ x ∈ xs, e (δ.set i (some x)) s = .ok d s) → lcO q (.nm i) tTrue e δ xs s = .ok (List.replicate xs.length d) s
  | [], _ => by simp only [lcO, if_pos hs]; rfl
  | x :: xs, h => by
    have ih := lcO_const hs xs fun y hy => h y (List.mem_cons_of_mem _ hy)
    have h1 := h x List.mem_cons_self
    simp only [lcO, if_pos hs, v_nm, v_tTrue, h1, ih]
    rfl
/-- the heap of a size: a list of the store or a new one -/
theorem heap_at {m : D → Nat} {xs : List D} {i : Nat} {kvs : List (Key × D)} {S : Sto} (h : Hps m xs i kvs S) (z : Nat) : ∃ d, (valD kvs (.inl (z : Int))).getD (.lst []) = d ∧ rsv S d = .lst (hf m z xs) ∧ (∀ g, rsv (S ++ g) d = .lst (hf m z xs)) ∧ ∃ q, wkOf S d = some (hf m z xs, q) ∧ Stl (hf m z xs, q) S := by
  rcases h.get z with ⟨j, e, _, hj, _⟩ | ⟨e, e0, _⟩
  · refine ⟨.ob j, by rw [e]; rfl, r_ob hj, fun g => r_ob (by rw [List.getElem?_append_left (List.getElem?_eq_some_iff.mp hj).1]; exact hj), some j, wk_ob hj, fun k hk => ?_⟩
    cases hk
    exact hj
  · refine ⟨.lst [], by rw [e]; rfl, by rw [e0]; rfl, fun g => by rw [e0]; rfl, none, by rw [e0]; rfl, fun k hk => nomatch hk⟩
theorem heaps_turn {n : Nat} {m : D → Nat} {o : D → D → Int} {B P X Y : D} {xs ys : List D} {i1 i2 : Nat} {k1 k2 : List (Key × D)} (lx : xs.length ≤ 1000) (ly : ys.length ≤ 1000) (ho : ∀ u ∈ xs, ∀ v ∈ ys, oS n B P u v (o u v)) (c1 c2 c3 : List D → Sto → R D)
    (z : Nat) (y7 y8 y9 : Option D) (s0 : Sto) (h1 : Hps m xs i1 k1 s0) (h2 : Hps m ys i2 k2 s0) : ∃ g, 
    (hz1 m o xs ys z ≠ 0 → L_order_of_heaps_0 c1 c2 c3 (S_order_of_rows (n + 1)) [some B, some P, some X, some Y, some (.ob i1), some (.ob i2), some (.int (z : Int)), y7, y8, y9, none] s0 = .rt (.int (hz1 m o xs ys z)) (s0 ++ g)) ∧
    (hz1 m o xs ys z = 0 → ∃ y7' y8' y9', L_order_of_heaps_0 c1 c2 c3 (S_order_of_rows (n + 1)) [some B, some P, some X, some Y, some (.ob i1), some (.ob i2), some (.int (z : Int)), y7, y8, y9, none] s0 = .nx [some B, some P, some X, some Y, some (.ob i1), some (.ob i2), some (.int (z : Int)), y7', y8', y9', none] (s0 ++ g)) := by
  obtain ⟨d1, e1, r1, r1', q1, w1, t1⟩ := heap_at h1 z
  obtain ⟨d2, e2, r2, r2', q2, w2, t2⟩ := heap_at h2 z
  have dk1 := dkO_at' h1.at_
  have dk2 := dkO_at' h2.at_
  have l1 := hf_len m z xs
  have l2 := hf_len m z ys
  have s1 : L_order_of_heaps_0 c1 c2 c3 (S_order_of_rows (n + 1)) [some B, some P, some X, some Y, some (.ob i1), some (.ob i2), some (.int (z : Int)), y7, y8, y9, none] s0 =
      (sSeq (sIf (tV (eBin gNe (eFn gLen (aCons (eV 7) (aNil))) (eFn gLen (aCons (eV 8) (aNil))))) (sRet (eCall S_sign_of (aCons (eBin gSub (eFn gLen (aCons (eV 7) (aNil))) (eFn gLen (aCons (eV 8) (aNil)))) (aNil)))) (sNx))
      (sSeq (sSet 9 (eCall (S_order_of_rows (n + 1)) (aCons (eV 0) (aCons (eFz (fLcO (iSeqO (eV 7)) [10] (.nm 10) (tTrue) (eV 1))) (aCons (eUn gRevA (eV 7)) (aCons (eUn gRevA (eV 8)) (aNil)))))))
      (sIf (tV (eBin gNe (eV 9) (eC (.int 0)))) (sRet (eV 9)) (sNx)))) [some B, some P, some X, some Y, some (.ob i1), some (.ob i2), some (.int (z : Int)), some d1, some d2, y9, none] s0 := by
    unfold L_order_of_heaps_0
    refine sq2 (δ' := [some B, some P, some X, some Y, some (.ob i1), some (.ob i2), some (.int (z : Int)), some d1, y8, y9, none]) (s' := s0) ?_ ?_
    · simp [dk1, keyD, e1]
    refine sq2 (δ' := [some B, some P, some X, some Y, some (.ob i1), some (.ob i2), some (.int (z : Int)), some d1, some d2, y9, none]) (s' := s0) ?_ rfl
    simp [dk2, keyD, e2]
  rw [s1]
  clear s1
  by_cases hl : (hf m z xs).length = (hf m z ys).length
  · have hh : hz1 m o xs ys z = fnz (zw o (hf m z xs).reverse (hf m z ys).reverse) := if_pos hl
    have hlc := lcO_const (q := (hf m z xs, q1)) (i := 10) (δ := [some B, some P, some X, some Y, some (.ob i1), some (.ob i2), some (.int (z : Int)), some d1, some d2, y9, none]) (e := eV 1) (d := P) t1 (hf m z xs) fun x _ => by simp
    obtain ⟨g, rv⟩ := rows_val (n := n) (B := B) (P := .lst (List.replicate (hf m z xs).length P)) (V := .lst (hf m z xs).reverse) (W := .lst (hf m z ys).reverse) (zs := zw o (hf m z xs).reverse (hf m z ys).reverse) (.inr rfl) (.inr rfl) (.inr rfl) (by simp; omega) (by simp; omega) (by simp; omega) (by rw [zw_len]) (by simp; omega)
      (fun k p v w x ep ev ew ez => by
        have : p = P := List.eq_of_mem_replicate (List.mem_of_getElem? ep)
        subst this
        rw [zw_get ez ev ew]
        refine ho v ?_ w ?_
        · have := List.mem_reverse.mp (List.mem_of_getElem? ev)
          exact (List.mem_filter.mp this).1
        · have := List.mem_reverse.mp (List.mem_of_getElem? ew)
          exact (List.mem_filter.mp this).1) s0
    rw [← hh] at rv
    refine ⟨g, ?_⟩
    have st : ∀ (R : S), sSeq (sIf (tV (eBin gNe (eFn gLen (aCons (eV 7) (aNil))) (eFn gLen (aCons (eV 8) (aNil))))) (sRet (eCall S_sign_of (aCons (eBin gSub (eFn gLen (aCons (eV 7) (aNil))) (eFn gLen (aCons (eV 8) (aNil)))) (aNil)))) (sNx)) (sSeq (sSet 9 (eCall (S_order_of_rows (n + 1)) (aCons (eV 0) (aCons (eFz (fLcO (iSeqO (eV 7)) [10] (.nm 10) (tTrue) (eV 1))) (aCons (eUn gRevA (eV 7)) (aCons (eUn gRevA (eV 8)) (aNil))))))) R) [some B, some P, some X, some Y, some (.ob i1), some (.ob i2), some (.int (z : Int)), some d1, some d2, y9, none] s0 =
        R [some B, some P, some X, some Y, some (.ob i1), some (.ob i2), some (.int (z : Int)), some d1, some d2, some (.int (hz1 m o xs ys z)), none] (s0 ++ g) := fun R => by
      refine sq2 (δ' := [some B, some P, some X, some Y, some (.ob i1), some (.ob i2), some (.int (z : Int)), some d1, some d2, y9, none]) (s' := s0) ?_ ?_
      · simp [r1, r2, hl]
      refine sq2 (δ' := [some B, some P, some X, some Y, some (.ob i1), some (.ob i2), some (.int (z : Int)), some d1, some d2, some (.int (hz1 m o xs ys z)), none]) (s' := s0 ++ g) ?_ rfl
      have sl := sl_k (n := (hf m z xs).length) (by omega)
      have rw1 : gRevA (.lst (hf m z xs)) = some (.lst (hf m z xs).reverse) := rfl
      have rw2 : gRevA (.lst (hf m z ys)) = some (.lst (hf m z ys).reverse) := rfl
      have ll : (List.replicate (hf m z xs).length P).length = (hf m z xs).length := by simp
      generalize (hf m z xs).reverse = xr at *
      generalize (hf m z ys).reverse = yr at *
      generalize List.replicate (hf m z xs).length P = rp at *
      simp [w1, wipeD, hlc, ll, sl, r1, r2, rw1, rw2, rv]
    rw [st]
    refine ⟨fun q => ?_, fun q => ⟨some d1, some d2, some (.int (hz1 m o xs ys z)), ?_⟩⟩
    · simp [q]
    · rw [q]; simp
  · have hh : hz1 m o xs ys z = sgn ((hf m z xs).length - (hf m z ys).length) := if_neg hl
    have sv := sign_val ((hf m z xs).length - (hf m z ys).length) s0
    rw [← hh] at sv
    have hne : hz1 m o xs ys z ≠ 0 := by rw [hh, Ne, sgn_0]; omega
    refine ⟨[], fun _ => ?_, fun q => absurd q hne⟩
    rw [List.append_nil]
    refine sq_rt ?_
    have hne2 : ¬ ((hf m z xs).length : Int) = ((hf m z ys).length : Int) := by omega
    have g1 : gLen [rsv s0 d1] = some (.int ((hf m z xs).length : Nat)) := by rw [r1]; rfl
    have g2 : gLen [rsv s0 d2] = some (.int ((hf m z ys).length : Nat)) := by rw [r2]; rfl
    generalize ((hf m z xs).length : Int) = a1 at *
    generalize ((hf m z ys).length : Int) = a2 at *
    simp [g1, g2, hne2, sv]
theorem heaps_go {n : Nat} {m : D → Nat} {o : D → D → Int} {B P X Y : D} {xs ys : List D} {i1 i2 : Nat} {k1 k2 : List (Key × D)} (lx : xs.length ≤ 1000) (ly : ys.length ≤ 1000) (ho : ∀ u ∈ xs, ∀ v ∈ ys, oS n B P u v (o u v)) (c1 c2 c3 : List D → Sto → R D) :
    ∀ (zs : List Int) (y6 y7 y8 y9 : Option D) (s0 : Sto), (∀ z ∈ zs, ∃ k : Nat, z = k) → Hps m xs i1 k1 s0 → Hps m ys i2 k2 s0 → ∃ g,
    (fnz (zs.map (hz1 m o xs ys)) ≠ 0 → forD (.nm 6) (L_order_of_heaps_0 c1 c2 c3 (S_order_of_rows (n + 1))) (zs.map .int) [some B, some P, some X, some Y, some (.ob i1), some (.ob i2), y6, y7, y8, y9, none] s0 = .rt (.int (fnz (zs.map (hz1 m o xs ys)))) (s0 ++ g)) ∧
    (fnz (zs.map (hz1 m o xs ys)) = 0 → ∃ y6' y7' y8' y9', forD (.nm 6) (L_order_of_heaps_0 c1 c2 c3 (S_order_of_rows (n + 1))) (zs.map .int) [some B, some P, some X, some Y, some (.ob i1), some (.ob i2), y6, y7, y8, y9, none] s0 = .nx [some B, some P, some X, some Y, some (.ob i1), some (.ob i2), y6', y7', y8', y9', none] (s0 ++ g))
  | [], y6, y7, y8, y9, s0, _, _, _ => ⟨[], fun h => absurd rfl h, fun _ => ⟨y6, y7, y8, y9, by simp [forD]⟩⟩
  | z :: zs, y6, y7, y8, y9, s0, hz, h1, h2 => by
    obtain ⟨k, rfl⟩ := hz z List.mem_cons_self
    have hb : bindP (.nm 6) (.int (k : Int)) [some B, some P, some X, some Y, some (.ob i1), some (.ob i2), y6, y7, y8, y9, none] = some [some B, some P, some X, some Y, some (.ob i1), some (.ob i2), some (.int (k : Int)), y7, y8, y9, none] := by simp
    obtain ⟨g, t1, t2⟩ := heaps_turn lx ly ho c1 c2 c3 k y7 y8 y9 s0 h1 h2
    rw [List.map_cons, List.map_cons]
    by_cases q : hz1 m o xs ys k = 0
    · obtain ⟨y7', y8', y9', e⟩ := t2 q
      obtain ⟨g2, u1, u2⟩ := heaps_go lx ly ho c1 c2 c3 zs (some (.int (k : Int))) y7' y8' y9' (s0 ++ g) (fun w hw => hz w (List.mem_cons_of_mem _ hw)) (h1.more g) (h2.more g)
      rw [show fnz (hz1 m o xs ys k :: zs.map (hz1 m o xs ys)) = fnz (zs.map (hz1 m o xs ys)) by simp [fnz, q]]
      refine ⟨g ++ g2, ?_⟩
      rw [fd_nx hb e, ← List.append_assoc]
      exact ⟨u1, u2⟩
    · rw [show fnz (hz1 m o xs ys k :: zs.map (hz1 m o xs ys)) = hz1 m o xs ys k by simp [fnz, q]]
      exact ⟨g, fun _ => fd_rt hb (t1 q), fun w => absurd w q⟩
theorem Hps.keys {m : D → Nat} {xs : List D} {i : Nat} {kvs : List (Key × D)} {s0 : Sto} (h : Hps m xs i kvs s0) (z : Int) : (.inl z : Key) ∈ kvs.map (·.1) ↔ z ∈ xs.map fun u => (m u : Int) := by
  constructor
  · intro c
    obtain ⟨p, hp, e⟩ := List.mem_map.mp c
    obtain ⟨z', j, e2, _, _, u, hu, hw⟩ := h.kv p hp
    rw [e2] at e
    have := Sum.inl.inj e
    exact List.mem_map.mpr ⟨u, hu, by omega⟩
  · intro c
    obtain ⟨u, hu, rfl⟩ := List.mem_map.mp c
    exact h.all u hu
theorem sortU_congr {xs ys : List Int} (h : ∀ z, z ∈ xs ↔ z ∈ ys) : sortU xs = sortU ys :=
  pw_uniq (sortU_pw xs) (sortU_pw ys) fun k => by rw [sortU_mem, sortU_mem, h k]
theorem heapsO_val {n : Nat} {m : D → Nat} {o : D → D → Int} {B P : D} {xs ys : List D} (lx : xs.length ≤ 1000) (ly : ys.length ≤ 1000) (fx : few m xs) (fy : few m ys) (h0 : xs = [] → ys = [])
    (mx : ∀ u ∈ xs, mS B 20 P u (m u)) (my : ∀ u ∈ ys, mS B 20 P u (m u)) (ho : ∀ u ∈ xs, ∀ v ∈ ys, oS n B P u v (o u v)) (s : Sto) : ∃ g, S_order_of_heaps (n + 2) [B, P, .lst xs, .lst ys] s = .ok (.int (hpO m o xs ys)) (s ++ g) := by
  obtain ⟨k1, g1, e1, p1⟩ := heaps_val xs lx mx s
  obtain ⟨k2, g2, e2, p2⟩ := heaps_val ys ly my (s ++ .dK k1 :: g1)
  have p1' := p1.more (.dK k2 :: g2)
  obtain ⟨a1, b1⟩ := p1.small fx
  obtain ⟨a2, b2⟩ := p2.small fy
  have c0 : k1 = [] → k2 = [] := fun e => by
    subst e
    have ex : xs = [] := by
      cases xs with
      | nil => rfl
      | cons u r => have := p1.all u List.mem_cons_self; simp at this
    have ey := h0 ex
    cases k2 with
    | nil => rfl
    | cons p r =>
      obtain ⟨z, j, _, _, _, u, hu, _⟩ := p2.kv p List.mem_cons_self
      rw [ey] at hu
      exact absurd hu List.not_mem_nil
  have ezs : sortU (unionK ((k1 ++ k2).map (·.1))) = sortU ((xs ++ ys).map fun u => (m u : Int)) := sortU_congr fun z => by
    rw [unionK_mem, List.map_append, List.mem_append, p1.keys, p2.keys, List.map_append, List.mem_append]
  obtain ⟨g3, t1, t2⟩ := heaps_go (n := n) (m := m) (o := o) (B := B) (P := P) (X := .lst xs) (Y := .lst ys) lx ly ho (S_order (n + 1)) (S_order_of_heaps (n + 1)) (S_order_of_picks (n + 1)) (sortU ((xs ++ ys).map fun u => (m u : Int))) none none none none (s ++ O.dK k1 :: g1 ++ O.dK k2 :: g2) (fun z hz => by
    rw [sortU_mem] at hz
    obtain ⟨u, _, rfl⟩ := List.mem_map.mp hz
    exact ⟨_, rfl⟩) p1' p2
  have d1 := dkO_at' p1'.at_
  have d2 := dkO_at' p2.at_
  rw [← hpO_eq] at t1 t2
  refine ⟨.dK k1 :: g1 ++ .dK k2 :: g2 ++ g3, ?_⟩
  show U_order_of_heaps (S_order (n + 1)) (S_order_of_heaps (n + 1)) (S_order_of_picks (n + 1)) (S_order_of_rows (n + 1)) _ s = _
  apply runG_rt
  obtain ⟨i2, hi2⟩ : ∃ i2, (s ++ O.dK k1 :: g1).length = i2 := ⟨_, rfl⟩
  rw [hi2] at e2 d2 t1 t2
  refine sq2 (δ' := [some B, some P, some (.lst xs), some (.lst ys), some (.ob s.length), none, none, none, none, none, none]) (s' := s ++ .dK k1 :: g1) (by simp [e1]) ?_
  refine sq2 (δ' := [some B, some P, some (.lst xs), some (.lst ys), some (.ob s.length), some (.ob i2), none, none, none, none, none]) (s' := s ++ .dK k1 :: g1 ++ .dK k2 :: g2) (by simp only [List.append_assoc] at e2 ⊢; simp [e2]) ?_
  have es : s ++ (O.dK k1 :: g1 ++ O.dK k2 :: g2 ++ g3) = s ++ O.dK k1 :: g1 ++ O.dK k2 :: g2 ++ g3 := by simp
  rw [es]
  generalize (s ++ O.dK k1 :: g1 ++ O.dK k2 :: g2) = s2 at *
  have it : (iSeq (eSortU (eV 4) (eV 5))) [some B, some P, some (.lst xs), some (.lst ys), some (.ob s.length), some (.ob i2), none, none, none, none, none] s2 = .ok ((sortU ((xs ++ ys).map fun u => (m u : Int))).map .int) s2 := by
    simp only [v_iSeq, v_eSortU]
    simp [d1, a1, b1, d2, a2, b2]
    rw [if_pos c0]
    simp only [R.bind]
    rw [show k1.map (·.1) ++ k2.map (·.1) = (k1 ++ k2).map (·.1) by simp, ezs]
    simp
  by_cases q : hpO m o xs ys = 0
  · obtain ⟨y6, y7, y8, y9, e⟩ := t2 q
    rw [q]
    refine sq2 (δ' := [some B, some P, some (.lst xs), some (.lst ys), some (.ob s.length), some (.ob i2), y6, y7, y8, y9, none]) (s' := s2 ++ g3) ?_ (by simp)
    rw [v_sFor, it]
    exact e
  · refine sq_rt ?_
    rw [v_sFor, it]
    exact t1 q
end Law

/-! VOg: the order of any two values of a shape. -/
namespace Law
open PySem L2 Gs MCh Tb
theorem brn_inj : ∀ {ms : List Str} {ps : List Sh} {a b : Str} {q r : Nat × Sh}, brn ms ps a = some q → brn ms ps b = some r → q.1 = r.1 → q = r
  | x :: ms, p :: ps, a, b, q, r, h1, h2, e => by
    by_cases e1 : x = a
    · simp only [brn, if_pos e1, Option.some.injEq] at h1
      subst h1
      by_cases e2 : x = b
      · simp only [brn, if_pos e2, Option.some.injEq] at h2
        exact h2
      · simp only [brn, if_neg e2] at h2
        obtain ⟨r', _, rfl⟩ := Option.map_eq_some_iff.mp h2
        simp at e
    · simp only [brn, if_neg e1] at h1
      obtain ⟨q', g1, rfl⟩ := Option.map_eq_some_iff.mp h1
      by_cases e2 : x = b
      · simp only [brn, if_pos e2, Option.some.injEq] at h2
        subst h2
        simp at e
      · simp only [brn, if_neg e2] at h2
        obtain ⟨r', g2, rfl⟩ := Option.map_eq_some_iff.mp h2
        have := brn_inj g1 g2 (by simpa using e)
        rw [this]
  | [], _, _, _, _, _, h, _, _ => nomatch h
  | _ :: _, [], _, _, _, _, h, _, _ => nomatch h
theorem ord_diff {n : Nat} {B P v w : D} {z1 z2 : Nat} (h1 : mS B 20 P v z1) (h2 : mS B 20 P w z2) (hne : z1 ≠ z2) : oS (n + 1) B P v w (sgn (z1 - z2)) := fun s => by
  have e1 := h1 s
  have e2 := h2 s
  have sv := sign_val ((z1 : Int) - z2) s
  have hn : ¬ (z1 : Int) = z2 := by omega
  refine ⟨[], ?_⟩
  rw [List.append_nil]
  show U_order (S_order n) (S_order_of_heaps n) (S_order_of_picks n) (S_order_of_rows n) _ s = _
  apply runG_rt
  generalize (z1 : Int) = a at *
  generalize (z2 : Int) = b at *
  simp [e1, e2, hn, sv]
/-- behind the sizes -/
noncomputable def restO (n : Nat) : S := sSeq (sIf (tV (eBin gEq (eBin gIx (eV 1) (eC (.int 0))) (eC (.str (Str.ofString "whole"))))) (sRet (eCall S_sign_of (aCons (eBin gSub (eV 2) (eV 3)) (aNil)))) (sNx))
    (sSeq (sIf (tV (eBin gEq (eBin gIx (eV 1) (eC (.int 0))) (eC (.str (Str.ofString "text"))))) (sRet (eCall S_order_of_texts (aCons (eBin gIx (eV 1) (eC (.int 1))) (aCons (eV 2) (aCons (eV 3) (aNil)))))) (sNx))
    (sSeq (sIf (tV (eBin gEq (eBin gIx (eV 1) (eC (.int 0))) (eC (.str (Str.ofString "row"))))) (sRet (eCall (S_order_of_rows n) (aCons (eV 0) (aCons (eBin gIx (eV 1) (eC (.int 1))) (aCons (eV 2) (aCons (eV 3) (aNil))))))) (sNx))
    (sSeq (sIf (tV (eBin gEq (eBin gIx (eV 1) (eC (.int 0))) (eC (.str (Str.ofString "pick"))))) (sRet (eCall (S_order_of_picks n) (aCons (eV 0) (aCons (eBin gIx (eV 1) (eC (.int 1))) (aCons (eV 2) (aCons (eV 3) (aNil))))))) (sNx))
    (sSeq (sIf (tV (eBin gEq (eBin gIx (eV 1) (eC (.int 0))) (eC (.str (Str.ofString "use"))))) (sRet (eCall (S_order n) (aCons (eV 0) (aCons (eCall S_shape_of (aCons (eV 0) (aCons (eBin gIx (eV 1) (eC (.int 1))) (aNil)))) (aCons (eV 2) (aCons (eV 3) (aNil))))))) (sNx))
    (sSeq (sIf (tOrr (tV (eBin gEq (eBin gIx (eV 1) (eC (.int 0))) (eC (.str (Str.ofString "rising"))))) (tV (eBin gEq (eBin gIx (eV 1) (eC (.int 0))) (eC (.str (Str.ofString "unlike")))))) (sRet (eCall (S_order_of_heaps n) (aCons (eV 0) (aCons (eBin gIx (eV 1) (eC (.int 1))) (aCons (eV 2) (aCons (eV 3) (aNil))))))) (sNx))
    (sSeq (sIf (tV (eBin gEq (eBin gIx (eV 1) (eC (.int 0))) (eC (.str (Str.ofString "alike"))))) (sRet (eCall (S_order n) (aCons (eV 0) (aCons (eBin gIx (eV 1) (eC (.int 1))) (aCons (eBin gIx (eV 2) (eC (.int 0))) (aCons (eBin gIx (eV 3) (eC (.int 0))) (aNil))))))) (sNx))
    (sRet (eCall (S_order_of_rows n) (aCons (eV 0) (aCons (eFz (fLc (iSeq (eV 2)) [6] (.nm 6) (tTrue) (eBin gIx (eV 1) (eC (.int 1))))) (aCons (eV 2) (aCons (eV 3) (aNil)))))))))))))
theorem ord_same {n : Nat} {B P v w : D} {z : Nat} {s s' : Sto} {r : D} (h1 : mS B 20 P v z) (h2 : mS B 20 P w z) (h : restO n [some B, some P, some v, some w, some (.int (z : Int)), some (.int (z : Int)), none] s = .rt r s') : S_order (n + 1) [B, P, v, w] s = .ok r s' := by
  have e1 := h1 s
  have e2 := h2 s
  show U_order (S_order n) (S_order_of_heaps n) (S_order_of_picks n) (S_order_of_rows n) _ s = _
  apply runG_rt
  refine sq2 (δ' := [some B, some P, some v, some w, some (.int (z : Int)), none, none]) (s' := s) (by simp [e1]) ?_
  refine sq2 (δ' := [some B, some P, some v, some w, some (.int (z : Int)), some (.int (z : Int)), none]) (s' := s) (by simp [e2]) ?_
  refine sq2 (δ' := [some B, some P, some v, some w, some (.int (z : Int)), some (.int (z : Int)), none]) (s' := s) (by simp) ?_
  exact h
theorem zw3_len {f : Sh → D → D → Int} {g h : Sh → D → Prop} : ∀ {ps : List Sh} {vs ws : List D}, all2 g ps vs → all2 h ps ws → (zw3 f ps vs ws).length = ps.length
  | [], [], [], _, _ => rfl
  | p :: ps, x :: xs, y :: ys, a, b => by simp [zw3, zw3_len a.2 b.2]
  | [], _ :: _, _, a, _ => a.elim
  | _ :: _, [], _, a, _ => a.elim
  | [], [], _ :: _, _, b => b.elim
  | _ :: _, _ :: _, [], _, b => b.elim
theorem zw3_get {f : Sh → D → D → Int} {g h : Sh → D → Prop} : ∀ {ps : List Sh} {vs ws : List D} {k : Nat} {pd v w : D} {z : Int}, all2 g ps vs → all2 h ps ws → (dL ps)[k]? = some pd → vs[k]? = some v → ws[k]? = some w → (zw3 f ps vs ws)[k]? = some z → ∃ p ∈ ps, pd = p.d ∧ g p v ∧ h p w ∧ z = f p v w
  | p :: ps, x :: xs, y :: ys, 0, _, _, _, _, a, b, e1, e2, e3, e4 => by
    simp [dL, zw3] at e1 e2 e3 e4
    subst e1 e2 e3 e4
    exact ⟨p, List.mem_cons_self, rfl, a.1, b.1, rfl⟩
  | p :: ps, x :: xs, y :: ys, k + 1, _, _, _, _, a, b, e1, e2, e3, e4 => by
    simp [dL, zw3] at e1 e2 e3 e4
    obtain ⟨q, hq, r⟩ := zw3_get a.2 b.2 e1 e2 e3 e4
    exact ⟨q, List.mem_cons_of_mem _ hq, r⟩
  | [], [], [], k, _, _, _, _, _, _, e1, _, _, _ => by simp [dL] at e1
  | [], _ :: _, _, _, _, _, _, _, a, _, _, _, _, _ => a.elim
  | _ :: _, [], _, _, _, _, _, _, a, _, _, _, _, _ => a.elim
  | [], [], _ :: _, _, _, _, _, _, _, b, _, _, _, _ => b.elim
  | _ :: _, _ :: _, [], _, _, _, _, _, _, b, _, _, _, _ => b.elim
theorem dL_len (ps : List Sh) : (dL ps).length = ps.length := dL_length ps
theorem sum_pos_nil {α : Type} (f : α → Nat) : ∀ xs : List α, (xs.map fun u => 1 + f u).sum = 0 → xs = []
  | [], _ => rfl
  | x :: xs, h => by simp at h
theorem heaps_case {bk : Bk} {d n : Nat} {q : Sh} {w : Str} {vs ws : List D} {z : Nat} (hw : w = Str.ofString "rising" ∨ w = Str.ofString "unlike") (lx : vs.length ≤ 1000) (ly : ws.length ≤ 1000) (fx : few (mzF bk d q) vs) (fy : few (mzF bk d q) ws)
    (mx : ∀ u ∈ vs, mS (bookD bk) 20 q.d u (mzF bk d q u)) (my : ∀ u ∈ ws, mS (bookD bk) 20 q.d u (mzF bk d q u)) (ho : ∀ u ∈ vs, ∀ v ∈ ws, oS n (bookD bk) q.d u v (ordF bk d q u v)) (h0 : vs = [] → ws = [])
    (h1 : mS (bookD bk) 20 (.tup [.str w, q.d]) (.lst vs) z) (h2 : mS (bookD bk) 20 (.tup [.str w, q.d]) (.lst ws) z) : oS (n + 3) (bookD bk) (.tup [.str w, q.d]) (.lst vs) (.lst ws) (hpO (mzF bk d q) (ordF bk d q) vs ws) := fun s => by
  obtain ⟨g, e⟩ := heapsO_val lx ly fx fy h0 mx my ho s
  refine ⟨g, ord_same h1 h2 ?_⟩
  have g0 : gIx (.tup [.str w, q.d]) (.int 0) = some (.str w) := by simp
  have g1 : gIx (.tup [.str w, q.d]) (.int 1) = some q.d := by simp
  have r0 : rsv s (.tup [.str w, q.d]) = .tup [.str w, q.d] := rfl
  generalize D.tup [.str w, q.d] = P at *
  generalize bookD bk = B at *
  unfold restO
  rcases hw with rfl | rfl <;> simp (decide := true) [g0, g1, r0, e]
theorem ord_val {bk : Bk} (hb : okBk bk) : ∀ (d : Nat) (p : Sh) (v w : D) (n : Nat), p.ok → Vd bk d p v → Vd bk d p w → 3 * d ≤ n → d ≤ 20 → oS n (bookD bk) p.d v w (ordF bk d p v w)
  | 0, _, _, _, _, _, h, _, _, _ => h.elim
  | d + 1, .mk k ps, v, w, n, ok, hv, hw, hn, hd => by
    have m1 := meas_val hb (d + 1) (.mk k ps) v 20 ok hv hd
    have m2 := meas_val hb (d + 1) (.mk k ps) w 20 ok hw hd
    obtain ⟨n, rfl⟩ : ∃ n', n = n' + 3 := ⟨n - 3, by omega⟩
    by_cases c : mzF bk (d + 1) (.mk k ps) v = mzF bk (d + 1) (.mk k ps) w
    rotate_left
    · have e : ordF bk (d + 1) (.mk k ps) v w = sgn (mzF bk (d + 1) (.mk k ps) v - mzF bk (d + 1) (.mk k ps) w) := by
        simp only [ordF, if_neg c]
      rw [e]
      exact ord_diff m1 m2 c
    have ih := fun p (hp : p.ok) v w (hv : Vd bk d p v) (hw : Vd bk d p w) n' (hn' : 3 * d ≤ n') => ord_val hb d p v w n' hp hv hw hn' (by omega)
    have mz := fun p (hp : p.ok) v (hv : Vd bk d p v) => meas_val hb d p v 20 hp hv (by omega)
    have okp := ok.2
    have okk := ok.1
    have cc := c
    rw [← c] at m2
    generalize hz : mzF bk (d + 1) (.mk k ps) v = z at m1 m2
    cases k with
    | whole lo hi =>
      obtain ⟨i, rfl, _⟩ := hv
      obtain ⟨j, rfl, _⟩ := hw
      intro s
      have e : ordF bk (d + 1) (.mk (.whole lo hi) ps) (.int i) (.int j) = sgn (i - j) := by simp only [ordF, if_pos cc]
      rw [e]
      have sv := sign_val (i - j) s
      refine ⟨[], ?_⟩
      rw [List.append_nil]
      refine ord_same m1 m2 ?_
      simp (decide := true) [restO, Sh.d, kd, sv]
    | text x =>
      obtain ⟨a, rfl, la, ha⟩ := hv
      obtain ⟨b, rfl, lb, hb'⟩ := hw
      intro s
      have e : ordF bk (d + 1) (.mk (.text x) ps) (.str (St a)) (.str (St b)) = txO x.cps.toList a b := by simp only [ordF, if_pos cc, St_tl]
      rw [e]
      have tv := texts_val ha hb' s
      rw [tl_St] at tv
      refine ⟨[], ?_⟩
      rw [List.append_nil]
      refine ord_same m1 m2 ?_
      generalize St a = A at *
      generalize St b = B at *
      simp (decide := true) [restO, Sh.d, kd, tv]
    | row =>
      obtain ⟨vs, rfl, lv, av⟩ := hv
      obtain ⟨ws, rfl, lw, aw⟩ := hw
      intro s
      have e : ordF bk (d + 1) (.mk .row ps) (.tup vs) (.tup ws) = fnz (zw3 (ordF bk d) ps vs ws) := by simp only [ordF, if_pos cc]
      rw [e]
      have l1 := all2_len av
      have l2 := all2_len aw
      obtain ⟨g, rv⟩ := rows_val (n := n + 1) (B := bookD bk) (P := .tup (dL ps)) (V := .tup vs) (W := .tup ws) (zs := zw3 (ordF bk d) ps vs ws) (.inl rfl) (.inl rfl) (.inl rfl) (by rw [dL_len]; omega) lv lw (by rw [zw3_len av aw]; omega) (by rw [dL_len]; omega)
        (fun k pd v w z e1 e2 e3 e4 => by
          obtain ⟨p, hp, rfl, hv, hw, rfl⟩ := zw3_get av aw e1 e2 e3 e4
          exact ih p (okL_mem' okp hp) v w hv hw (n + 1) (by omega)) s
      refine ⟨g, ord_same m1 m2 ?_⟩
      have ed : Sh.d (.mk .row ps) = .tup [.str "row", .tup (dL ps)] := rfl
      rw [ed]
      generalize dL ps = Ps at *
      generalize bookD bk = B at *
      simp (decide := true) [restO, rv]
    | pick ms =>
      obtain ⟨a, u, q, rfl, hq, hu⟩ := hv
      obtain ⟨b, u', r, rfl, hr, hu'⟩ := hw
      intro s
      have e : ordF bk (d + 1) (.mk (.pick ms) ps) (.tup [.str a, u]) (.tup [.str b, u']) = if q.1 = r.1 then ordF bk d q.2 u u' else sgn (q.1 - r.1) := by simp only [ordF, if_pos cc, hq, hr]
      rw [e]
      have p1 := placeof_val (ms := ms) (ps := ps) okk.1 a s
      have p2 := placeof_val (ms := ms) (ps := ps) okk.1 b s
      rw [hq] at p1
      rw [hr] at p2
      have a1 := brn_at hq
      have a3 := ix_at a1.1
      have ed : Sh.d (.mk (.pick ms) ps) = .tup [.str "pick", .tup (brD ms ps)] := rfl
      rw [ed] at m1 m2 ⊢
      simp only at p1 p2
      have s2 : 2 ≤ sizeLine := by decide
      have ru : rsv s u = u := vd_rsv hu s
      have ru' : rsv s u' = u' := vd_rsv hu' s
      by_cases c2 : q.1 = r.1
      · have eqr := brn_inj hq hr c2
        subst eqr
        rw [if_pos rfl]
        obtain ⟨g, o1⟩ := ih q.2 (okL_mem' okp a1.2) u u' hu hu' (n + 1) (by omega) s
        have pv : S_order_of_picks (n + 2) [bookD bk, .tup (brD ms ps), .tup [.str a, u], .tup [.str b, u']] s = .ok (.int (ordF bk d q.2 u u')) (s ++ g) := by
          show U_order_of_picks (S_order (n + 1)) (S_order_of_heaps (n + 1)) (S_order_of_picks (n + 1)) (S_order_of_rows (n + 1)) _ s = _
          apply runG_rt
          generalize brD ms ps = bs at *
          generalize bookD bk = B at *
          generalize (q.1 : Int) = kk at *
          simp [p1, p2, a3, ru, ru', o1]
        refine ⟨g, ord_same m1 m2 ?_⟩
        generalize brD ms ps = bs at *
        generalize bookD bk = B at *
        simp (decide := true) [restO, pv]
      · rw [if_neg c2]
        have sv := sign_val ((q.1 : Int) - r.1) s
        have hne : ¬ (q.1 : Int) = r.1 := by omega
        have pv : S_order_of_picks (n + 2) [bookD bk, .tup (brD ms ps), .tup [.str a, u], .tup [.str b, u']] s = .ok (.int (sgn (q.1 - r.1))) s := by
          show U_order_of_picks (S_order (n + 1)) (S_order_of_heaps (n + 1)) (S_order_of_picks (n + 1)) (S_order_of_rows (n + 1)) _ s = _
          apply runG_rt
          generalize brD ms ps = bs at *
          generalize bookD bk = B at *
          generalize (q.1 : Int) = kk at *
          generalize (r.1 : Int) = k2 at *
          simp [p1, p2, hne, sv]
        refine ⟨[], ?_⟩
        rw [List.append_nil]
        refine ord_same m1 m2 ?_
        generalize brD ms ps = bs at *
        generalize bookD bk = B at *
        simp (decide := true) [restO, pv]
    | use nm =>
      obtain ⟨p, hp, hv'⟩ := hv
      obtain ⟨p', hp', hw'⟩ := hw
      rw [hp] at hp'
      cases hp'
      intro s
      have e : ordF bk (d + 1) (.mk (.use nm) ps) v w = ordF bk d p v w := by
        simp only [ordF, if_pos cc]
        cases v <;> simp only [hp]
      rw [e]
      obtain ⟨g, o1⟩ := ih p (hb nm p hp) v w hv' hw' (n + 2) (by omega) s
      have sh := shapeof_val hp s
      refine ⟨g, ord_same m1 m2 ?_⟩
      have ed : Sh.d (.mk (.use nm) ps) = .tup [.str "use", .str nm] := rfl
      rw [ed]
      have rv : rsv s v = v := vd_rsv hv' s
      have rw' : rsv s w = w := vd_rsv hw' s
      generalize bookD bk = B at *
      generalize p.d = P at *
      simp (decide := true) [restO, sh, o1, rv, rw']
    | many =>
      obtain ⟨vs, rfl, lv, av⟩ := hv
      obtain ⟨ws, rfl, lw, aw⟩ := hw
      match ps, okk, okp with
      | [q], _, okp =>
        intro s
        have e : ordF bk (d + 1) (.mk .many [q]) (.lst vs) (.lst ws) = fnz (zw (ordF bk d q) vs ws) := by simp only [ordF, if_pos cc]; rfl
        rw [e]
        obtain ⟨g, rv⟩ := rows_val (n := n + 1) (B := bookD bk) (P := .lst (List.replicate vs.length q.d)) (V := .lst vs) (W := .lst ws) (zs := zw (ordF bk d q) vs ws) (.inr rfl) (.inr rfl) (.inr rfl) (by simpa using lv) lv lw (by rw [zw_len]) (by simp; omega)
          (fun k pd v w z e1 e2 e3 e4 => by
            have : pd = q.d := List.eq_of_mem_replicate (List.mem_of_getElem? e1)
            subst this
            rw [zw_get e4 e2 e3]
            exact ih q okp.1 v w (av v (List.mem_of_getElem? e2)) (aw w (List.mem_of_getElem? e3)) (n + 1) (by omega)) s
        refine ⟨g, ord_same m1 m2 ?_⟩
        have ed : Sh.d (.mk .many [q]) = .tup [.str "many", q.d] := rfl
        rw [ed]
        have lc := lcN (i := 6) (s := s) (δ := [some (bookD bk), some (.tup [.str "many", q.d]), some (.lst vs), some (.lst ws), some (.int (z : Int)), some (.int (z : Int)), none]) (e := eBin gIx (eV 1) (eC (.int 1))) (fun _ => q.d) vs fun u _ => by simp
        have em : vs.map (fun _ => q.d) = List.replicate vs.length q.d := by simp [List.map_const']
        rw [em] at lc
        have sl := sl_k lv
        have ll : (List.replicate vs.length q.d).length = vs.length := by simp
        generalize List.replicate vs.length q.d = rp at *
        generalize bookD bk = B at *
        simp (decide := true) [restO, wipeD, lc, ll, sl, rv]
    | rising =>
      obtain ⟨vs, rfl, lv, av, _, fv⟩ := hv
      obtain ⟨ws, rfl, lw, aw, _, fw⟩ := hw
      match ps, okk, okp with
      | [q], _, okp =>
        have e : ordF bk (d + 1) (.mk .rising [q]) (.lst vs) (.lst ws) = hpO (mzF bk d q) (ordF bk d q) vs ws := by simp only [ordF, if_pos cc]; rfl
        rw [e]
        refine heaps_case (n := n) (.inl rfl) lv lw fv fw (fun u hu => mz q okp.1 u (av u hu)) (fun u hu => mz q okp.1 u (aw u hu)) (fun u hu v hv => ih q okp.1 u v (av u hu) (aw v hv) n (by omega)) (fun e0 => ?_) m1 m2
        subst e0
        have : (ws.map fun u => 1 + mzF bk d q u).sum = 0 := by
          have := cc
          simp only [mzF] at this
          simpa [hdS] using this.symm
        exact sum_pos_nil _ ws this
    | unlike =>
      obtain ⟨vs, rfl, lv, av, _, fv⟩ := hv
      obtain ⟨ws, rfl, lw, aw, _, fw⟩ := hw
      match ps, okk, okp with
      | [q], _, okp =>
        have e : ordF bk (d + 1) (.mk .unlike [q]) (.lst vs) (.lst ws) = hpO (mzF bk d q) (ordF bk d q) vs ws := by simp only [ordF, if_pos cc]; rfl
        rw [e]
        refine heaps_case (n := n) (.inr rfl) lv lw fv fw (fun u hu => mz q okp.1 u (av u hu)) (fun u hu => mz q okp.1 u (aw u hu)) (fun u hu v hv => ih q okp.1 u v (av u hu) (aw v hv) n (by omega)) (fun e0 => ?_) m1 m2
        subst e0
        have : (ws.map fun u => 1 + mzF bk d q u).sum = 0 := by
          have := cc
          simp only [mzF] at this
          simpa [hdS] using this.symm
        exact sum_pos_nil _ ws this
    | alike t =>
      obtain ⟨u, rfl, ht, hu⟩ := hv
      obtain ⟨u', rfl, _, hu'⟩ := hw
      match ps, okk, okp with
      | [q], okk, okp =>
        obtain ⟨t', rfl⟩ : ∃ t', t = t' + 1 := ⟨t - 1, by have := okk.2.1; omega⟩
        intro s
        have e : ordF bk (d + 1) (.mk (.alike (t' + 1)) [q]) (.lst (List.replicate (t' + 1) u)) (.lst (List.replicate (t' + 1) u')) = ordF bk d q u u' := by
          simp only [ordF, if_pos cc]
          rfl
        rw [e]
        obtain ⟨g, o1⟩ := ih q okp.1 u u' hu hu' (n + 2) (by omega) s
        refine ⟨g, ord_same m1 m2 ?_⟩
        have ed : Sh.d (.mk (.alike (t' + 1)) [q]) = .tup [.str "alike", q.d, .int ((t' + 1 : Nat) : Int)] := rfl
        rw [ed]
        have x1 : gIx (.lst (List.replicate (t' + 1) u)) (.int 0) = some u := seqD_ix (vs := List.replicate (t' + 1) u) (.inr rfl) (k := 0) (by simp) (by simpa using ht)
        have x2 : gIx (.lst (List.replicate (t' + 1) u')) (.int 0) = some u' := seqD_ix (vs := List.replicate (t' + 1) u') (.inr rfl) (k := 0) (by simp) (by simpa using ht)
        have r1 : rsv s (.lst (List.replicate (t' + 1) u)) = .lst (List.replicate (t' + 1) u) := rfl
        have r2 : rsv s (.lst (List.replicate (t' + 1) u')) = .lst (List.replicate (t' + 1) u') := rfl
        generalize D.lst (List.replicate (t' + 1) u) = V at *
        generalize D.lst (List.replicate (t' + 1) u') = W at *
        generalize ((t' + 1 : Nat) : Int) = tt at *
        generalize bookD bk = B at *
        simp (decide := true) [restO, x1, x2, r1, r2, o1]
end Law

/-! VOh: what is of a shape. -/
namespace Law
open PySem L2 Gs MCh Tb
instance nbrDec (o : D → D → Int) (m : Int) : ∀ vs : List D, Decidable (nbr o m vs)
  | [] => .isTrue trivial
  | [_] => .isTrue trivial
  | x :: y :: r => by
    unfold nbr
    exact @instDecidableAnd _ _ _ (nbrDec o m (y :: r))
theorem nbr_drop {o : D → D → Int} {m : Int} {vs : List D} {k : Nat} {x y : D} (h1 : vs[k]? = some x) (h2 : vs[k + 1]? = some y) : nbr o m (vs.drop k) ↔ o x y ≤ m ∧ nbr o m (vs.drop (k + 1)) := by
  obtain ⟨l1, g1⟩ := List.getElem?_eq_some_iff.mp h1
  obtain ⟨l2, g2⟩ := List.getElem?_eq_some_iff.mp h2
  rw [List.drop_eq_getElem_cons l1, List.drop_eq_getElem_cons l2, g1, g2]
  rfl
theorem rises_loop {bk : Bk} {q : Sh} {o : D → D → Int} {vs : List D} {m : Int} (hl : vs.length ≤ 1000) (ho : ∀ u ∈ vs, ∀ v ∈ vs, oS 20 (bookD bk) q.d u v (o u v)) : ∀ (j k : Nat) (y4 : Option D) (s : Sto), k + 1 + j = vs.length → ∃ g,
    (¬ nbr o m (vs.drop k) → forD (.nm 4) L_rises_0 ((List.range' k j).map fun (i : Nat) => .int ((1 : Int) + (i : Int))) [some (bookD bk), some q.d, some (.lst vs), some (.int m), y4] s = .rt (.bl false) (s ++ g)) ∧
    (nbr o m (vs.drop k) → ∃ y4', forD (.nm 4) L_rises_0 ((List.range' k j).map fun (i : Nat) => .int ((1 : Int) + (i : Int))) [some (bookD bk), some q.d, some (.lst vs), some (.int m), y4] s = .nx [some (bookD bk), some q.d, some (.lst vs), some (.int m), y4'] (s ++ g))
  | 0, k, y4, s, h => by
    have e : nbr o m (vs.drop k) := by
      have : (vs.drop k).length = 1 := by rw [List.length_drop]; omega
      match vs.drop k, this with
      | [x], _ => trivial
    exact ⟨[], fun w => absurd e w, fun _ => ⟨y4, by simp [forD]⟩⟩
  | j + 1, k, y4, s, h => by
    obtain ⟨x, ex⟩ : ∃ x, vs[k]? = some x := ⟨_, List.getElem?_eq_getElem (by omega)⟩
    obtain ⟨y, ey⟩ : ∃ y, vs[k + 1]? = some y := ⟨_, List.getElem?_eq_getElem (by omega)⟩
    obtain ⟨g1, e1⟩ := ho x (List.mem_of_getElem? ex) y (List.mem_of_getElem? ey) s
    obtain ⟨g2, i1, i2⟩ := rises_loop (m := m) hl ho j (k + 1) (some (.int ((1 : Int) + (k : Int)))) (s ++ g1) (by omega)
    have x1 : gIx (.lst vs) (.int ((1 : Int) + (k : Int) - 1)) = some x := by
      rw [show (1 : Int) + (k : Int) - 1 = (k : Int) by omega]
      exact seqD_ix (.inr rfl) ex hl
    have x2 : gIx (.lst vs) (.int ((1 : Int) + (k : Int))) = some y := by
      rw [show (1 : Int) + (k : Int) = ((k + 1 : Nat) : Int) by omega]
      exact seqD_ix (.inr rfl) ey hl
    have hb : bindP (.nm 4) (.int ((1 : Int) + (k : Int))) [some (bookD bk), some q.d, some (.lst vs), some (.int m), y4] = some [some (bookD bk), some q.d, some (.lst vs), some (.int m), some (.int ((1 : Int) + (k : Int)))] := by simp
    rw [List.range'_succ, List.map_cons, nbr_drop ex ey]
    have rl : rsv s (.lst vs) = .lst vs := rfl
    have rl2 : rsv (s ++ g1) (.lst vs) = .lst vs := rfl
    by_cases c : o x y ≤ m
    · have c' : ¬ m < o x y := by omega
      refine ⟨g1 ++ g2, ?_⟩
      rw [fd_nx hb (δ2 := [some (bookD bk), some q.d, some (.lst vs), some (.int m), some (.int ((1 : Int) + (k : Int)))]) (s2 := s ++ g1) (by
        generalize D.lst vs = V at *
        generalize bookD bk = B at *
        generalize q.d = P at *
        generalize (1 : Int) + (k : Int) = kk at *
        simp [L_rises_0, rl, x1, x2, e1, c']), ← List.append_assoc]
      exact ⟨fun w => i1 fun z => w ⟨c, z⟩, fun w => i2 w.2⟩
    · have c' : m < o x y := by omega
      refine ⟨g1, fun _ => fd_rt hb ?_, fun w => absurd w.1 c⟩
      generalize D.lst vs = V at *
      generalize bookD bk = B at *
      generalize q.d = P at *
      generalize (1 : Int) + (k : Int) = kk at *
      simp [L_rises_0, rl, x1, x2, e1, c']
theorem rises_val {bk : Bk} {q : Sh} {o : D → D → Int} {vs : List D} {m : Int} (hl : vs.length ≤ 1000) (ho : ∀ u ∈ vs, ∀ v ∈ vs, oS 20 (bookD bk) q.d u v (o u v)) (s : Sto) : ∃ g, S_rises [bookD bk, q.d, .lst vs, .int m] s = .ok (.bl (decide (nbr o m vs))) (s ++ g) := by
  have sl := sl_k hl
  have rk : rngOk (vs.length : Int) := rngOk_nat (by omega)
  have r1 : rngOk (1 : Int) := rngOk_nat (j := 1) (by omega)
  have it : (iRange2 (aCons (eC (.int 1)) (aCons (eFn gLen (aCons (eV 2) aNil)) aNil))) [some (bookD bk), some q.d, some (.lst vs), some (.int m), none] s = .ok (rngD 1 ((vs.length : Int) - 1).toNat) s := by
    generalize bookD bk = B
    generalize q.d = P
    simp [rk, r1]
  by_cases h0 : vs.length = 0
  · have e0 : vs = [] := List.eq_nil_of_length_eq_zero h0
    subst e0
    refine ⟨[], ?_⟩
    rw [decide_eq_true (show nbr o m [] from trivial)]
    apply runG_rt
    refine sq2 (δ' := [some (bookD bk), some q.d, some (.lst []), some (.int m), none]) (s' := s) ?_ (by simp)
    show sFor _ _ _ [some (bookD bk), some q.d, some (.lst []), some (.int m), none] s = _
    rw [v_sFor, it]
    simp [rngD, forD]
  · obtain ⟨g, a1, a2⟩ := rises_loop (m := m) hl ho (vs.length - 1) 0 none s (by omega)
    rw [List.drop_zero] at a1 a2
    have er : rngD 1 ((vs.length : Int) - 1).toNat = (List.range' 0 (vs.length - 1)).map fun (i : Nat) => D.int ((1 : Int) + (i : Int)) := by
      unfold rngD
      rw [List.range_eq_range', show ((vs.length : Int) - 1).toNat = vs.length - 1 by omega]
    refine ⟨g, ?_⟩
    apply runG_rt
    rw [er] at it
    by_cases c : nbr o m vs
    · obtain ⟨y4, e⟩ := a2 c
      rw [decide_eq_true c]
      refine sq2 (δ' := [some (bookD bk), some q.d, some (.lst vs), some (.int m), y4]) (s' := s ++ g) ?_ (by simp)
      show sFor _ _ _ [some (bookD bk), some q.d, some (.lst vs), some (.int m), none] s = _
      rw [v_sFor, it]
      exact e
    · rw [decide_eq_false c]
      refine sq_rt ?_
      show sFor _ _ _ [some (bookD bk), some q.d, some (.lst vs), some (.int m), none] s = _
      rw [v_sFor, it]
      exact a1 c
/-- whether v is of the shape, as the program says -/
def fS (n : Nat) (B p v : D) (b : Bool) : Prop := ∀ s : Sto, ∃ g, S_fits n [B, p, v] s = .ok (.bl b) (s ++ g)
theorem fit_whole {n : Nat} {B : D} {lo hi i : Int} : fS (n + 1) B (.tup [.str (Str.ofString "whole"), .int lo, .int hi]) (.int i) (decide (lo ≤ i ∧ i ≤ hi)) := fun s => by
  refine ⟨[], ?_⟩
  rw [List.append_nil]
  show U_fits (S_fits n) (S_fits_branch n) (S_fits_list n) (S_fits_parts n) _ s = _
  apply runG_rt
  by_cases h : lo ≤ i
  · by_cases h2 : i ≤ hi <;> simp (decide := true) [h, h2, tyN, isTy]
  · simp (decide := true) [h, tyN, isTy]
theorem fit_text {n : Nat} {B : D} {x l : List Nat} (hl : l.length ≤ 1000) : fS (n + 1) B (.tup [.str (Str.ofString "text"), .str (St x)]) (.str (St l)) (l.all fun c => decide (c ∈ x)) := fun s => by
  refine ⟨[], ?_⟩
  rw [List.append_nil]
  have lc := lc_signs l 3 (eBin gIn (eV 3) (eBin gIx (eV 1) (eC (.int 1)))) [some B, some (.tup [.str (Str.ofString "text"), .str (St x)]), some (.str (St l)), none] s (fun c => decide (c ∈ x)) fun c => by simp
  have ga := gAll_map l fun c => decide (c ∈ x)
  have sl := sl_k hl
  have ll : (l.map fun c => D.bl (decide (c ∈ x))).length = l.length := by simp
  show U_fits (S_fits n) (S_fits_branch n) (S_fits_list n) (S_fits_parts n) _ s = _
  apply runG_rt
  generalize (l.map fun c => D.bl (decide (c ∈ x))) = bs at *
  generalize (l.all fun c => decide (c ∈ x)) = b at *
  simp (decide := true) [tyN, isTy, wipeD, lc, ll, sl, ga]
end Law

/-! VOi: each value is of its shape. -/
namespace Law
open PySem L2 Gs MCh Tb
theorem parts_loop {n : Nat} {B P V : D} {f : Sh → D → Prop} (c2 c3 c4 : List D → Sto → R D) : ∀ (ps : List Sh) (vs : List D) (y3 y4 : Option D) (s : Sto), all2 f ps vs → (∀ p ∈ ps, ∀ v, f p v → fS n B p.d v true ∧ ∀ s, rsv s v = v) → ∃ y3' y4' g,
    forD (.tp [.nm 3, .nm 4]) (L_fits_parts_0 (S_fits n) c2 c3 c4) (zipD (dL ps) vs) [some B, some P, some V, y3, y4] s = .nx [some B, some P, some V, y3', y4'] (s ++ g)
  | [], [], y3, y4, s, _, _ => ⟨y3, y4, [], by simp [dL, zipD, forD]⟩
  | p :: ps, x :: xs, y3, y4, s, a, h => by
    obtain ⟨h1, h2⟩ := h p List.mem_cons_self x a.1
    obtain ⟨g1, e1⟩ := h1 s
    obtain ⟨y3', y4', g2, e2⟩ := parts_loop (n := n) (B := B) (P := P) (V := V) c2 c3 c4 ps xs (some p.d) (some x) (s ++ g1) a.2 fun q hq => h q (List.mem_cons_of_mem _ hq)
    refine ⟨y3', y4', g1 ++ g2, ?_⟩
    have hb : bindP (.tp [.nm 3, .nm 4]) (.tup [p.d, x]) [some B, some P, some V, y3, y4] = some [some B, some P, some V, some p.d, some x] := by simp
    show forD _ _ (D.tup [p.d, x] :: zipD (dL ps) xs) _ s = _
    rw [fd_nx hb (δ2 := [some B, some P, some V, some p.d, some x]) (s2 := s ++ g1) (by simp [L_fits_parts_0, e1]), ← List.append_assoc]
    exact e2
  | [], _ :: _, _, _, _, a, _ => a.elim
  | _ :: _, [], _, _, _, a, _ => a.elim
theorem fit_row {n : Nat} {B : D} {ps : List Sh} {vs : List D} {f : Sh → D → Prop} (lv : vs.length ≤ 1000) (a : all2 f ps vs) (h : ∀ p ∈ ps, ∀ v, f p v → fS n B p.d v true ∧ ∀ s, rsv s v = v) : fS (n + 2) B (.tup [.str (Str.ofString "row"), .tup (dL ps)]) (.tup vs) true := fun s => by
  obtain ⟨y3, y4, g, e⟩ := parts_loop (P := .tup (dL ps)) (V := .tup vs) (S_fits_branch n) (S_fits_list n) (S_fits_parts n) ps vs none none s a h
  have hl : (dL ps).length = vs.length := by rw [dL_len]; exact all2_len a
  have pv : S_fits_parts (n + 1) [B, .tup (dL ps), .tup vs] s = .ok (.bl true) (s ++ g) := by
    show U_fits_parts (S_fits n) (S_fits_branch n) (S_fits_list n) (S_fits_parts n) _ s = _
    apply runG_rt
    refine sq2 (δ' := [some B, some (.tup (dL ps)), some (.tup vs), none, none]) (s' := s) (by simp [hl]) ?_
    refine sq2 (δ' := [some B, some (.tup (dL ps)), some (.tup vs), y3, y4]) (s' := s ++ g) ?_ (by simp)
    simp
    exact e
  refine ⟨g, ?_⟩
  show U_fits (S_fits (n + 1)) (S_fits_branch (n + 1)) (S_fits_list (n + 1)) (S_fits_parts (n + 1)) _ s = _
  apply runG_rt
  generalize dL ps = Ps at *
  simp (decide := true) [tyN, isTy, pv]
theorem fit_pick {n : Nat} {B u : D} {ms : List Str} {ps : List Sh} {m : Str} {q : Nat × Sh} (hl : ms.length = ps.length) (hq : brn ms ps m = some q) (h : fS n B q.2.d u true) (ru : ∀ s, rsv s u = u) : fS (n + 2) B (.tup [.str (Str.ofString "pick"), .tup (brD ms ps)]) (.tup [.str m, u]) true := fun s => by
  obtain ⟨g, e⟩ := h s
  have p1 := placeof_val hl m s
  rw [hq] at p1
  simp only at p1
  have a3 := ix_at (brn_at hq).1
  have s2 : 2 ≤ sizeLine := by decide
  have ru := ru s
  have pv : S_fits_branch (n + 1) [B, .tup (brD ms ps), .tup [.str m, u]] s = .ok (.bl true) (s ++ g) := by
    show U_fits_branch (S_fits n) (S_fits_branch n) (S_fits_list n) (S_fits_parts n) _ s = _
    apply runG_rt
    have hk : (0 : Int) ≤ (q.1 : Int) := by omega
    generalize brD ms ps = bs at *
    generalize (q.1 : Int) = kk at *
    simp (decide := true) [tyN, isTy, p1, a3, ru, e, hk]
  refine ⟨g, ?_⟩
  show U_fits (S_fits (n + 1)) (S_fits_branch (n + 1)) (S_fits_list (n + 1)) (S_fits_parts (n + 1)) _ s = _
  apply runG_rt
  generalize brD ms ps = bs at *
  simp (decide := true) [tyN, isTy, pv]
theorem fit_use {n : Nat} {bk : Bk} {v : D} {nm : Str} {p : Sh} {b : Bool} (hp : bk.lookup nm = some p) (h : fS n (bookD bk) p.d v b) (ru : ∀ s, rsv s v = v) : fS (n + 1) (bookD bk) (.tup [.str (Str.ofString "use"), .str nm]) v b := fun s => by
  obtain ⟨g, e⟩ := h s
  have sh := shapeof_val hp s
  have ru := ru s
  refine ⟨g, ?_⟩
  show U_fits (S_fits n) (S_fits_branch n) (S_fits_list n) (S_fits_parts n) _ s = _
  apply runG_rt
  generalize bookD bk = B at *
  generalize p.d = P at *
  simp (decide := true) [sh, e, ru]
theorem list_loop {n : Nat} {B P V pd : D} (hP : gIx P (.int 1) = some pd) (rP : ∀ s, rsv s P = P) (c2 c3 c4 : List D → Sto → R D) : ∀ (vs : List D) (y3 : Option D) (s : Sto), (∀ v ∈ vs, fS n B pd v true) → ∃ y3' g,
    forD (.nm 3) (L_fits_list_0 (S_fits n) c2 c3 c4) vs [some B, some P, some V, y3] s = .nx [some B, some P, some V, y3'] (s ++ g)
  | [], y3, s, _ => ⟨y3, [], by simp [forD]⟩
  | x :: xs, y3, s, h => by
    obtain ⟨g1, e1⟩ := h x List.mem_cons_self s
    obtain ⟨y3', g2, e2⟩ := list_loop (n := n) (B := B) (P := P) (V := V) hP rP c2 c3 c4 xs (some x) (s ++ g1) fun y hy => h y (List.mem_cons_of_mem _ hy)
    refine ⟨y3', g1 ++ g2, ?_⟩
    have hb : bindP (.nm 3) x [some B, some P, some V, y3] = some [some B, some P, some V, some x] := by simp
    have rP := rP s
    rw [fd_nx hb (δ2 := [some B, some P, some V, some x]) (s2 := s ++ g1) (by simp [L_fits_list_0, hP, rP, e1]), ← List.append_assoc]
    exact e2
/-- behind the things -/
noncomputable def tailL : S := (sSeq (sIf (tV (eBin gEq (eBin gIx (eV 1) (eC (.int 0))) (eC (.str (Str.ofString "rising"))))) (sRet (eCall S_rises (aCons (eV 0) (aCons (eBin gIx (eV 1) (eC (.int 1))) (aCons (eV 2) (aCons (eC (.int 0)) (aNil))))))) (sNx))
    (sSeq (sIf (tV (eBin gEq (eBin gIx (eV 1) (eC (.int 0))) (eC (.str (Str.ofString "unlike"))))) (sRet (eCall S_rises (aCons (eV 0) (aCons (eBin gIx (eV 1) (eC (.int 1))) (aCons (eV 2) (aCons (eUn gNeg (eC (.int 1))) (aNil))))))) (sNx))
    (sSeq (sIf (tV (eBin gEq (eBin gIx (eV 1) (eC (.int 0))) (eC (.str (Str.ofString "alike"))))) (sRet (eCall S_all_alike (aCons (eBin gIx (eV 1) (eC (.int 2))) (aCons (eV 2) (aNil))))) (sNx))
    (sRet (eC (.bl true))))))
/-- a list of things of the part: b by the kind -/
theorem fit_list {n : Nat} {B pd : D} {w : Str} {r : List D} {vs : List D} {b : Bool} (h : ∀ v ∈ vs, fS n B pd v true)
    (hr : r.length ≤ 1) (hw : w ≠ Str.ofString "whole" ∧ w ≠ Str.ofString "text" ∧ w ≠ Str.ofString "row" ∧ w ≠ Str.ofString "pick" ∧ w ≠ Str.ofString "use")
    (hb : ∀ (s : Sto) (y3 : Option D), ∃ g, tailL [some B, some (.tup (.str w :: pd :: r)), some (.lst vs), y3] s = .rt (.bl b) (s ++ g)) : fS (n + 2) B (.tup (.str w :: pd :: r)) (.lst vs) b := fun s => by
  have g0 : gIx (.tup (.str w :: pd :: r)) (.int 0) = some (.str w) := by rcases r with _ | ⟨x, _ | _⟩ <;> simp at hr ⊢
  have g1 : gIx (.tup (.str w :: pd :: r)) (.int 1) = some pd := by rcases r with _ | ⟨x, _ | _⟩ <;> simp at hr ⊢
  have r0 : ∀ s, rsv s (.tup (.str w :: pd :: r)) = .tup (.str w :: pd :: r) := fun _ => rfl
  obtain ⟨y3, ga, e1⟩ := list_loop (n := n) (B := B) (P := .tup (.str w :: pd :: r)) (V := .lst vs) g1 r0 (S_fits_branch n) (S_fits_list n) (S_fits_parts n) vs none s h
  obtain ⟨gb, e2⟩ := hb (s ++ ga) y3
  have pv : S_fits_list (n + 1) [B, .tup (.str w :: pd :: r), .lst vs] s = .ok (.bl b) (s ++ (ga ++ gb)) := by
    show U_fits_list (S_fits n) (S_fits_branch n) (S_fits_list n) (S_fits_parts n) _ s = _
    apply runG_rt
    refine sq2 (δ' := [some B, some (.tup (.str w :: pd :: r)), some (.lst vs), y3]) (s' := s ++ ga) ?_ ?_
    · simp only [v_sFor, v_iSeq]
      exact e1
    · rw [← List.append_assoc]
      exact e2
  refine ⟨ga ++ gb, ?_⟩
  have r0 := r0 s
  show U_fits (S_fits (n + 1)) (S_fits_branch (n + 1)) (S_fits_list (n + 1)) (S_fits_parts (n + 1)) _ s = _
  apply runG_rt
  obtain ⟨w1, w2, w3, w4, w5⟩ := hw
  generalize D.tup (.str w :: pd :: r) = P at *
  generalize ga ++ gb = g at *
  simp (decide := true) [r0, g0, w1, w2, w3, w4, w5, tyN, isTy, pv]
theorem fit_many {n : Nat} {B pd : D} {vs : List D} (h : ∀ v ∈ vs, fS n B pd v true) : fS (n + 2) B (.tup [.str (Str.ofString "many"), pd]) (.lst vs) true :=
  fit_list (r := []) h (by simp) (by decide) fun s y3 => ⟨[], by
    rw [List.append_nil]
    simp (decide := true) [tailL]⟩
theorem fit_rising {n : Nat} {bk : Bk} {q : Sh} {vs : List D} {o : D → D → Int} (lv : vs.length ≤ 1000) (h : ∀ v ∈ vs, fS n (bookD bk) q.d v true) (ho : ∀ u ∈ vs, ∀ v ∈ vs, oS 20 (bookD bk) q.d u v (o u v)) : fS (n + 2) (bookD bk) (.tup [.str (Str.ofString "rising"), q.d]) (.lst vs) (decide (nbr o 0 vs)) :=
  fit_list (r := []) h (by simp) (by decide) fun s y3 => by
    obtain ⟨g, e⟩ := rises_val (m := 0) lv ho s
    refine ⟨g, ?_⟩
    generalize bookD bk = B at *
    generalize q.d = P at *
    generalize decide (nbr o 0 vs) = b at *
    simp (decide := true) [tailL, e]
theorem fit_unlike {n : Nat} {bk : Bk} {q : Sh} {vs : List D} {o : D → D → Int} (lv : vs.length ≤ 1000) (h : ∀ v ∈ vs, fS n (bookD bk) q.d v true) (ho : ∀ u ∈ vs, ∀ v ∈ vs, oS 20 (bookD bk) q.d u v (o u v)) : fS (n + 2) (bookD bk) (.tup [.str (Str.ofString "unlike"), q.d]) (.lst vs) (decide (nbr o (-1) vs)) :=
  fit_list (r := []) h (by simp) (by decide) fun s y3 => by
    obtain ⟨g, e⟩ := rises_val (m := -1) lv ho s
    refine ⟨g, ?_⟩
    generalize bookD bk = B at *
    generalize q.d = P at *
    generalize decide (nbr o (-1) vs) = b at *
    simp (decide := true) [tailL, e]
theorem alike_val {t : Int} {vs : List D} {f : D → Bool} (lv : vs.length ≤ 1000) (h : ∀ u v, vs[0]? = some u → v ∈ vs → gEq v u = some (.bl (f v))) (s : Sto) : S_all_alike [.int t, .lst vs] s = .ok (.bl (decide ((vs.length : Int) = t) && vs.all f)) s := by
  have sl := sl_k lv
  apply runG_rt
  by_cases c : (vs.length : Int) = t
  · have lc := lcN (i := 2) (s := s) (δ := [some (.int t), some (.lst vs), none]) (e := eBin gEq (eV 2) (eBin gIx (eV 1) (eC (.int 0)))) (fun v => .bl (f v)) vs fun v hv => by
      obtain ⟨u, hu⟩ : ∃ u, vs[0]? = some u := by
        cases vs with
        | nil => exact absurd hv List.not_mem_nil
        | cons u r => exact ⟨u, rfl⟩
      have x0 : gIx (.lst vs) (.int 0) = some u := seqD_ix (.inr rfl) (k := 0) hu lv
      have r0 : rsv s (.lst vs) = .lst vs := rfl
      have hq := h u v hu hv
      have rv : rsv s v = v := by
        cases v <;> first | rfl | (unfold gEq eqO at hq; cases u <;> simp [eqPy, toPy] at hq)
      have ru : rsv s u = u := by
        cases u <;> first | rfl | (unfold gEq eqO at hq; cases v <;> simp [eqPy, toPy] at hq)
      generalize D.lst vs = V at *
      simp [r0, x0, rv, ru, hq]
    have ga := gAll_map vs f
    have ll : (vs.map fun v => D.bl (f v)).length = vs.length := by simp
    generalize (vs.map fun v => D.bl (f v)) = L at *
    generalize vs.all f = b at *
    simp [c, wipeD, lc, ll, sl, ga]
  · simp [c]
theorem fit_alike {n : Nat} {B pd : D} {t : Int} {vs : List D} {f : D → Bool} (lv : vs.length ≤ 1000) (h : ∀ v ∈ vs, fS n B pd v true) (hq : ∀ u v, vs[0]? = some u → v ∈ vs → gEq v u = some (.bl (f v))) : fS (n + 2) B (.tup [.str (Str.ofString "alike"), pd, .int t]) (.lst vs) (decide ((vs.length : Int) = t) && vs.all f) :=
  fit_list (r := [.int t]) h (by simp) (by decide) fun s y3 => by
    have e := alike_val (t := t) lv hq s
    refine ⟨[], ?_⟩
    rw [List.append_nil]
    generalize (decide ((vs.length : Int) = t) && vs.all f) = b at *
    simp (decide := true) [tailL, e]
theorem fit_val {bk : Bk} (hb : okBk bk) (hE : ∀ d p v, Vd bk d p v → p.ok → gEq v v = some (.bl true)) : ∀ (d : Nat) (p : Sh) (v : D) (n : Nat), p.ok → Vd bk d p v → 2 * d ≤ n → 3 * d ≤ 20 → fS n (bookD bk) p.d v true
  | 0, _, _, _, _, h, _, _ => h.elim
  | d + 1, .mk k ps, v, n, ok, hv, hn, hd => by
    obtain ⟨n, rfl⟩ : ∃ n', n = n' + 2 := ⟨n - 2, by omega⟩
    have ih := fun p (hp : p.ok) v (hv : Vd bk d p v) n' (hn' : 2 * d ≤ n') => fit_val hb hE d p v n' hp hv hn' (by omega)
    have oo := fun p (hp : p.ok) v (hv : Vd bk d p v) w (hw : Vd bk d p w) => ord_val hb d p v w 20 hp hv hw (by omega) (by omega)
    have okp := ok.2
    have okk := ok.1
    cases k with
    | whole lo hi =>
      obtain ⟨i, rfl, h1, h2⟩ := hv
      have := fit_whole (n := n + 1) (B := bookD bk) (lo := lo) (hi := hi) (i := i)
      rw [decide_eq_true ⟨h1, h2⟩] at this
      exact this
    | text x =>
      obtain ⟨l, rfl, hl, hc⟩ := hv
      have := fit_text (n := n + 1) (B := bookD bk) (x := x.cps.toList) hl
      rw [List.all_eq_true.mpr fun c m => decide_eq_true (hc c m), tl_St] at this
      exact this
    | row =>
      obtain ⟨vs, rfl, hl, a⟩ := hv
      exact fit_row hl (all2_imp (g := fun p v => p ∈ ps ∧ Vd bk d p v) (fun p hp v hv => ⟨hp, hv⟩) a) fun p hp v hv => ⟨ih p (okL_mem' okp hp) v hv.2 n (by omega), vd_rsv hv.2⟩
    | pick ms =>
      obtain ⟨m, u, q, rfl, hq, hu⟩ := hv
      exact fit_pick okk.1 hq (ih q.2 (okL_mem' okp (brn_at hq).2) u hu n (by omega)) (vd_rsv hu)
    | use nm =>
      obtain ⟨p, hp, hv'⟩ := hv
      exact fit_use hp (ih p (hb nm p hp) v hv' (n + 1) (by omega)) (vd_rsv hv')
    | many =>
      obtain ⟨vs, rfl, hl, a⟩ := hv
      match ps, okk, okp with
      | [q], _, okp => exact fit_many fun v m => ih q okp.1 v (a v m) n (by omega)
    | rising =>
      obtain ⟨vs, rfl, hl, a, hr, _⟩ := hv
      match ps, okk, okp with
      | [q], _, okp =>
        have := fit_rising (n := n) (o := ordF bk d q) hl (fun v m => ih q okp.1 v (a v m) n (by omega)) fun u hu v hv => oo q okp.1 u (a u hu) v (a v hv)
        rw [decide_eq_true (show nbr (ordF bk d q) 0 vs from hr)] at this
        exact this
    | unlike =>
      obtain ⟨vs, rfl, hl, a, hr, _⟩ := hv
      match ps, okk, okp with
      | [q], _, okp =>
        have := fit_unlike (n := n) (o := ordF bk d q) hl (fun v m => ih q okp.1 v (a v m) n (by omega)) fun u hu v hv => oo q okp.1 u (a u hu) v (a v hv)
        rw [decide_eq_true (show nbr (ordF bk d q) (-1) vs from hr)] at this
        exact this
    | alike t =>
      obtain ⟨u, rfl, ht, hu⟩ := hv
      match ps, okk, okp with
      | [q], _, okp =>
        have := fit_alike (n := n) (B := bookD bk) (pd := q.d) (t := (t : Int)) (vs := List.replicate t u) (f := fun _ => true) (by simpa using ht) (fun v m => by rw [List.eq_of_mem_replicate m]; exact ih q okp.1 u hu n (by omega)) fun a b ha hb' => by
          have e1 : a = u := List.eq_of_mem_replicate (List.mem_of_getElem? ha)
          rw [e1, List.eq_of_mem_replicate hb']
          exact hE d q u hu okp.1
        simp only [List.length_replicate, decide_true, Bool.true_and] at this
        rw [List.all_eq_true.mpr fun _ _ => rfl] at this
        exact this
end Law

/-! VOj: two values compared. -/
namespace Law
open PySem L2 Gs MCh Tb
theorem compared_ok {B P v w : D} {z : Int} (h1 : fS 20 B P v true) (h2 : fS 20 B P w true) (ho : oS 20 B P v w z) (s : Sto) : ∃ g, S_compared [B, P, v, w] s = .ok (.int z) (s ++ g) := by
  obtain ⟨g1, e1⟩ := h1 s
  obtain ⟨g2, e2⟩ := h2 (s ++ g1)
  obtain ⟨g3, e3⟩ := ho (s ++ g1 ++ g2)
  have s2 : 2 ≤ sizeLine := by decide
  refine ⟨g1 ++ g2 ++ g3, ?_⟩
  apply runG_rt
  refine sq2 (δ' := [some B, some P, some v, some w, some w]) (s' := s ++ g1 ++ g2) ?_ ?_
  · simp [s2]
    rw [fd_nx (δ1 := [some B, some P, some v, some w, some v]) (δ2 := [some B, some P, some v, some w, some v]) (s2 := s ++ g1) (by simp) (by simp [L_compared_0, e1]), fd_nx (δ1 := [some B, some P, some v, some w, some w]) (δ2 := [some B, some P, some v, some w, some w]) (s2 := s ++ g1 ++ g2) (by simp) (by simp [L_compared_0, e2])]
    simp [forD]
  · have e : s ++ (g1 ++ g2 ++ g3) = s ++ g1 ++ g2 ++ g3 := by simp
    rw [e]
    generalize s ++ g1 ++ g2 = s3 at *
    simp [e3]
end Law

/-! V25a: spots and their things. -/
namespace Law
open PySem L2 Gs MCh Tb
structure P25 where
  wh : Bool
  lo : Int
  x : List Nat
def wds : List (List Nat) := [[97, 98, 99], [98, 99, 97], [99, 98, 97], [97, 99, 98]]
def P25.sh (p : P25) : Sh := .mk (if p.wh then .whole p.lo (p.lo + 7) else .text (St p.x)) []
def lim5 (wh : Bool) (z : Nat) : Nat := (if wh then [1, 1, 2, 4] else [1, 3, 9, 27]).getD z 0
def off5 (z : Nat) : Nat := [0, 1, 2, 4].getD z 0
def okS (p : P25) (s : Int × Int) : Prop := ∃ z q : Nat, s = ((z : Int), (q : Int)) ∧ z < 4 ∧ q < lim5 p.wh z
def wd (x : List Nat) : Nat → Nat → List Nat → List Nat
  | 0, _, a => a
  | n + 1, q, a => wd x n (q / 3) (x.getD (q % 3) 0 :: a)
def thg (p : P25) (s : Int × Int) : D := if p.wh then .int (p.lo + (off5 s.1.toNat : Nat) + s.2) else .str (St (wd p.x s.1.toNat s.2.toNat []))
theorem bit_off : ∀ z < 4, ∀ q < lim5 true z, bitN ((off5 z + q : Nat) : Int) = z := by decide +kernel
theorem lim_27 : ∀ z < 4, ∀ b, lim5 b z ≤ 27 := by decide +kernel
theorem wd_len (x : List Nat) : ∀ (n q : Nat) (a : List Nat), (wd x n q a).length = n + a.length
  | 0, _, _ => by simp [wd]
  | n + 1, q, a => by rw [wd, wd_len x n]; simp; omega
theorem wd_mem {x : List Nat} (hx : 3 ≤ x.length) : ∀ (n q : Nat) (a : List Nat), (∀ c ∈ a, c ∈ x) → ∀ c ∈ wd x n q a, c ∈ x
  | 0, _, _, h => h
  | n + 1, q, a, h => wd_mem hx n _ _ fun c hc => by
    rcases List.mem_cons.mp hc with rfl | hc
    · rw [List.getD_eq_getElem?_getD, List.getElem?_eq_getElem (show q % 3 < x.length by omega)]
      exact List.getElem_mem _
    · exact h c hc
theorem wd_ord : ∀ x ∈ wds, ∀ z < 4, ∀ q < lim5 false z, ∀ r < lim5 false z, txO x (wd x z q []) (wd x z r []) = sgn ((q : Int) - (r : Int)) := by decide +kernel
theorem wds_len : ∀ x ∈ wds, x.length = 3 := by decide
theorem thg_V {bk : Bk} {p : P25} {s : Int × Int} {d : Nat} (hx : p.x ∈ wds) (h : okS p s) : Vd bk (d + 1) p.sh (thg p s) := by
  obtain ⟨z, q, rfl, hz, hq⟩ := h
  obtain ⟨wh, lo, x⟩ := p
  cases wh with
  | true =>
    refine ⟨_, rfl, ?_, ?_⟩
    · simp; omega
    · have : ∀ z < 4, ∀ q < lim5 true z, off5 z + q ≤ 7 := by decide +kernel
      have := this z hz q hq
      simp
      omega
  | false =>
    refine ⟨_, rfl, ?_, ?_⟩
    · rw [wd_len]; simp; omega
    · have l3 := wds_len _ hx
      intro c hc
      exact wd_mem (Nat.le_of_eq l3.symm) _ _ _ (by simp) c hc
theorem thg_m {bk : Bk} {p : P25} {s : Int × Int} {d : Nat} (h : okS p s) : ((mzF bk (d + 1) p.sh (thg p s) : Nat) : Int) = s.1 := by
  obtain ⟨z, q, rfl, hz, hq⟩ := h
  obtain ⟨wh, lo, x⟩ := p
  cases wh with
  | true =>
    show ((bitN _ : Nat) : Int) = _
    have e : lo + ((off5 (z : Int).toNat : Nat) : Int) + (q : Int) - lo = ((off5 z + q : Nat) : Int) := by simp; omega
    rw [e, bit_off z hz q hq]
  | false =>
    show (((St (wd x (z : Int).toNat _ [])).length : Nat) : Int) = _
    rw [St_len, wd_len]
    simp
theorem ord_whole {bk : Bk} {d : Nat} {a b i j : Int} : ordF bk (d + 1) (.mk (.whole a b) []) (.int i) (.int j) = if mzF bk (d + 1) (.mk (.whole a b) []) (.int i) = mzF bk (d + 1) (.mk (.whole a b) []) (.int j) then sgn (i - j) else sgn (mzF bk (d + 1) (.mk (.whole a b) []) (.int i) - mzF bk (d + 1) (.mk (.whole a b) []) (.int j)) := rfl
theorem ord_text {bk : Bk} {d : Nat} {x a b : List Nat} : ordF bk (d + 1) (.mk (.text (St x)) []) (.str (St a)) (.str (St b)) = if mzF bk (d + 1) (.mk (.text (St x)) []) (.str (St a)) = mzF bk (d + 1) (.mk (.text (St x)) []) (.str (St b)) then txO x a b else sgn (mzF bk (d + 1) (.mk (.text (St x)) []) (.str (St a)) - mzF bk (d + 1) (.mk (.text (St x)) []) (.str (St b))) := rfl
theorem thg_o {bk : Bk} {p : P25} {s t : Int × Int} {d : Nat} (hx : p.x ∈ wds) (hs : okS p s) (ht : okS p t) : ordF bk (d + 1) p.sh (thg p s) (thg p t) = if s.1 = t.1 then sgn (s.2 - t.2) else sgn (s.1 - t.1) := by
  have m1 := thg_m (bk := bk) (d := d) hs
  have m2 := thg_m (bk := bk) (d := d) ht
  obtain ⟨z, q, rfl, hz, hq⟩ := hs
  obtain ⟨z', r, rfl, hz', hr⟩ := ht
  simp only at m1 m2
  have m1 : mzF bk (d + 1) p.sh (thg p ((z : Int), (q : Int))) = z := by exact_mod_cast m1
  have m2 : mzF bk (d + 1) p.sh (thg p ((z' : Int), (r : Int))) = z' := by exact_mod_cast m2
  obtain ⟨wh, lo, x⟩ := p
  by_cases c : z = z'
  · subst c
    rw [if_pos rfl]
    cases wh with
    | true =>
      show ordF bk (d + 1) (.mk (.whole lo (lo + 7)) []) (.int (lo + (off5 z : Nat) + (q : Int))) (.int (lo + (off5 z : Nat) + (r : Int))) = sgn ((q : Int) - (r : Int))
      have m1 : mzF bk (d + 1) (.mk (.whole lo (lo + 7)) []) (.int (lo + (off5 z : Nat) + (q : Int))) = z := m1
      have m2 : mzF bk (d + 1) (.mk (.whole lo (lo + 7)) []) (.int (lo + (off5 z : Nat) + (r : Int))) = z := m2
      rw [ord_whole, m1, m2, if_pos rfl]
      congr 1
      omega
    | false =>
      have := wd_ord x hx z hz q hq r hr
      show ordF bk (d + 1) (.mk (.text (St x)) []) (.str (St (wd x z q []))) (.str (St (wd x z r []))) = sgn ((q : Int) - (r : Int))
      have m1 : mzF bk (d + 1) (.mk (.text (St x)) []) (.str (St (wd x z q []))) = z := m1
      have m2 : mzF bk (d + 1) (.mk (.text (St x)) []) (.str (St (wd x z r []))) = z := m2
      rw [ord_text, m1, m2, if_pos rfl]
      exact this
  · rw [if_neg (show ¬ (((z : Nat) : Int), (q : Int)).1 = (((z' : Nat) : Int), (r : Int)).1 from fun h => c (Int.ofNat.inj h))]
    cases wh with
    | true =>
      show ordF bk (d + 1) (.mk (.whole lo (lo + 7)) []) (.int (lo + (off5 z : Nat) + (q : Int))) (.int (lo + (off5 z' : Nat) + (r : Int))) = sgn ((z : Int) - (z' : Int))
      have m1 : mzF bk (d + 1) (.mk (.whole lo (lo + 7)) []) (.int (lo + (off5 z : Nat) + (q : Int))) = z := m1
      have m2 : mzF bk (d + 1) (.mk (.whole lo (lo + 7)) []) (.int (lo + (off5 z' : Nat) + (r : Int))) = z' := m2
      rw [ord_whole, m1, m2, if_neg c]
    | false =>
      show ordF bk (d + 1) (.mk (.text (St x)) []) (.str (St (wd x z q []))) (.str (St (wd x z' r []))) = sgn ((z : Int) - (z' : Int))
      have m1 : mzF bk (d + 1) (.mk (.text (St x)) []) (.str (St (wd x z q []))) = z := m1
      have m2 : mzF bk (d + 1) (.mk (.text (St x)) []) (.str (St (wd x z' r []))) = z' := m2
      rw [ord_text, m1, m2, if_neg c]
end Law

/-! V25b: the law's due. -/
namespace Law
open PySem L2 Gs MCh Tb
def hsz (z : Int) (l : List (Int × Int)) : List (Int × Int) := l.filter fun s => decide (s.1 = z)
def zw5 (xs ys : List (Int × Int)) : List Int := List.zipWith (fun s t => sgn (s.2 - t.2)) xs ys
def turn5 (xs ys : List (Int × Int)) (z : Int) : Int :=
  if (hsz z xs).length = (hsz z ys).length then fnz (zw5 (hsz z xs).reverse (hsz z ys).reverse) else sgn ((hsz z xs).length - (hsz z ys).length)
def wsum5 (xs : List (Int × Int)) : Int := (xs.map fun s => 1 + s.1).sum
def due5 (xs ys : List (Int × Int)) : Int := if wsum5 xs = wsum5 ys then fnz (([0, 1, 2, 3] : List Int).map (turn5 xs ys)) else sgn (wsum5 xs - wsum5 ys)
theorem sgn_neg (i : Int) : sgn (-i) = -sgn i := by unfold sgn; split <;> split <;> (try split) <;> omega
theorem fnz_neg {α : Type} (f g : α → Int) (h : ∀ x, f x = -g x) : ∀ l : List α, fnz (l.map f) = -fnz (l.map g)
  | [] => rfl
  | x :: l => by
    rw [List.map_cons, List.map_cons, fnz, fnz, fnz_neg f g h l, h x]
    by_cases c : g x = 0
    · rw [if_pos c, if_pos (by omega)]
    · rw [if_neg c, if_neg (by omega)]
theorem zw5_neg : ∀ xs ys : List (Int × Int), fnz (zw5 ys xs) = -fnz (zw5 xs ys)
  | [], [] => rfl
  | [], _ :: _ => rfl
  | _ :: _, [] => rfl
  | x :: xs, y :: ys => by
    have ih := zw5_neg xs ys
    unfold zw5 at ih ⊢
    rw [List.zipWith_cons_cons, List.zipWith_cons_cons, fnz, fnz, ih]
    have e : sgn (y.2 - x.2) = -sgn (x.2 - y.2) := by rw [← sgn_neg]; congr 1; omega
    rw [e]
    by_cases c : sgn (x.2 - y.2) = 0
    · rw [if_pos c, if_pos (by omega)]
    · rw [if_neg c, if_neg (by omega)]
theorem turn5_neg (xs ys : List (Int × Int)) (z : Int) : turn5 ys xs z = -turn5 xs ys z := by
  unfold turn5
  by_cases c : (hsz z xs).length = (hsz z ys).length
  · rw [if_pos c, if_pos c.symm, zw5_neg]
  · rw [if_neg c, if_neg (fun h => c h.symm), ← sgn_neg]
    congr 1
    omega
theorem due5_neg (xs ys : List (Int × Int)) : due5 ys xs = -due5 xs ys := by
  unfold due5
  by_cases c : wsum5 xs = wsum5 ys
  · rw [if_pos c, if_pos c.symm]
    exact fnz_neg _ _ (fun z => turn5_neg xs ys z) _
  · rw [if_neg c, if_neg (fun h => c h.symm), ← sgn_neg]
    congr 1
    omega
theorem due5_self (xs : List (Int × Int)) : due5 xs xs = 0 := by
  have := due5_neg xs xs
  omega
/-- of the sizes that are there -/
theorem fnz_filter (f : Int → Int) (p : Int → Bool) : ∀ l : List Int, (∀ z ∈ l, p z = false → f z = 0) → fnz ((l.filter p).map f) = fnz (l.map f)
  | [], _ => rfl
  | z :: l, h => by
    have ih := fnz_filter f p l fun y hy => h y (List.mem_cons_of_mem _ hy)
    cases c : p z with
    | true => rw [List.filter_cons_of_pos c, List.map_cons, List.map_cons, fnz, fnz, ih]
    | false => rw [List.filter_cons_of_neg (by rw [c]; decide), ih, List.map_cons, fnz, if_pos (h z List.mem_cons_self c)]
theorem sortU_0123 {l : List Int} (h : ∀ z ∈ l, z = 0 ∨ z = 1 ∨ z = 2 ∨ z = 3) : sortU l = ([0, 1, 2, 3] : List Int).filter fun z => decide (z ∈ l) := by
  refine pw_uniq (sortU_pw l) ?_ ?_
  · exact List.Pairwise.filter _ (by decide)
  · intro z
    rw [sortU_mem, List.mem_filter, decide_eq_true_eq]
    refine ⟨fun q => ⟨?_, q⟩, fun q => q.2⟩
    rcases h z q with rfl | rfl | rfl | rfl <;> simp
theorem okS_fst {p : P25} {s : Int × Int} (h : okS p s) : s.1 = 0 ∨ s.1 = 1 ∨ s.1 = 2 ∨ s.1 = 3 := by
  obtain ⟨z, q, rfl, hz, hq⟩ := h
  simp
  omega
theorem hf_thg {bk : Bk} {p : P25} {d : Nat} (z : Int) : ∀ xs : List (Int × Int), (∀ s ∈ xs, okS p s) → (xs.map (thg p)).filter (fun u => decide ((mzF bk (d + 1) p.sh u : Int) = z)) = (hsz z xs).map (thg p)
  | [], _ => rfl
  | s :: xs, h => by
    have ih := hf_thg (bk := bk) (d := d) z xs fun t ht => h t (List.mem_cons_of_mem _ ht)
    have e := thg_m (bk := bk) (d := d) (h s List.mem_cons_self)
    unfold hsz at ih ⊢
    rw [List.map_cons, List.filter_cons, e, ih, List.filter_cons]
    by_cases c : s.1 = z
    · rw [if_pos (by rw [decide_eq_true_eq]; exact c), if_pos (by rw [decide_eq_true_eq]; exact c), List.map_cons]
    · rw [if_neg (by rw [decide_eq_true_eq]; exact c), if_neg (by rw [decide_eq_true_eq]; exact c)]
theorem zw_thg {bk : Bk} {p : P25} {d : Nat} (hx : p.x ∈ wds) {z : Int} : ∀ xs ys : List (Int × Int), (∀ s ∈ xs, okS p s ∧ s.1 = z) → (∀ s ∈ ys, okS p s ∧ s.1 = z) → zw (ordF bk (d + 1) p.sh) (xs.map (thg p)) (ys.map (thg p)) = zw5 xs ys
  | [], _, _, _ => by unfold zw5; rfl
  | _ :: _, [], _, _ => by unfold zw5; rfl
  | s :: xs, t :: ys, h1, h2 => by
    have ih := zw_thg (bk := bk) (d := d) hx xs ys (fun u hu => h1 u (List.mem_cons_of_mem _ hu)) fun u hu => h2 u (List.mem_cons_of_mem _ hu)
    have a := h1 s List.mem_cons_self
    have b := h2 t List.mem_cons_self
    unfold zw5 at ih ⊢
    rw [List.map_cons, List.map_cons, zw, thg_o hx a.1 b.1, if_pos (a.2.trans b.2.symm), ih, List.zipWith_cons_cons]
theorem hsz_mem {z : Int} {xs : List (Int × Int)} {s : Int × Int} (h : s ∈ hsz z xs) : s ∈ xs ∧ s.1 = z := by
  unfold hsz at h
  rw [List.mem_filter, decide_eq_true_eq] at h
  exact h
theorem hpO_thg {bk : Bk} {p : P25} {d : Nat} (hx : p.x ∈ wds) {xs ys : List (Int × Int)} (h1 : ∀ s ∈ xs, okS p s) (h2 : ∀ s ∈ ys, okS p s) :
    hpO (mzF bk (d + 1) p.sh) (ordF bk (d + 1) p.sh) (xs.map (thg p)) (ys.map (thg p)) = fnz (([0, 1, 2, 3] : List Int).map (turn5 xs ys)) := by
  have em : ((xs.map (thg p) ++ ys.map (thg p)).map fun u => ((mzF bk (d + 1) p.sh u : Nat) : Int)) = (xs ++ ys).map fun s => s.1 := by
    rw [← List.map_append, List.map_map]
    refine List.map_congr_left fun s hs => ?_
    refine thg_m ?_
    rcases List.mem_append.mp hs with q | q
    · exact h1 s q
    · exact h2 s q
  unfold hpO
  rw [em, sortU_0123 (fun z hz => by
    obtain ⟨s, hs, rfl⟩ := List.mem_map.mp hz
    rcases List.mem_append.mp hs with q | q
    · exact okS_fst (h1 s q)
    · exact okS_fst (h2 s q))]
  have ef : (fun z : Int =>
    if ((xs.map (thg p)).filter fun u => decide ((mzF bk (d + 1) p.sh u : Int) = z)).length = ((ys.map (thg p)).filter fun u => decide ((mzF bk (d + 1) p.sh u : Int) = z)).length
    then fnz (zw (ordF bk (d + 1) p.sh) ((xs.map (thg p)).filter fun u => decide ((mzF bk (d + 1) p.sh u : Int) = z)).reverse ((ys.map (thg p)).filter fun u => decide ((mzF bk (d + 1) p.sh u : Int) = z)).reverse)
    else sgn (((xs.map (thg p)).filter fun u => decide ((mzF bk (d + 1) p.sh u : Int) = z)).length - ((ys.map (thg p)).filter fun u => decide ((mzF bk (d + 1) p.sh u : Int) = z)).length)) = turn5 xs ys := by
    funext z
    rw [hf_thg z xs h1, hf_thg z ys h2, List.length_map, List.length_map, ← List.map_reverse, ← List.map_reverse, zw_thg hx (z := z) _ _ (fun s hs => ?_) fun s hs => ?_]
    · rfl
    · have := hsz_mem (List.mem_reverse.mp hs)
      exact ⟨h1 s this.1, this.2⟩
    · have := hsz_mem (List.mem_reverse.mp hs)
      exact ⟨h2 s this.1, this.2⟩
  rw [ef]
  refine fnz_filter _ _ _ fun z hz c => ?_
  rw [decide_eq_false_iff_not] at c
  have no : ∀ l : List (Int × Int), (∀ s ∈ l, s ∈ xs ++ ys) → hsz z l = [] := fun l hl => by
    unfold hsz
    rw [List.filter_eq_nil_iff]
    intro s hs q
    rw [decide_eq_true_eq] at q
    exact c (List.mem_map.mpr ⟨s, hl s hs, q⟩)
  unfold turn5
  rw [no xs fun s hs => List.mem_append_left _ hs, no ys fun s hs => List.mem_append_right _ hs]
  rfl
theorem mz_list {bk : Bk} {p : P25} {d : Nat} {xs : List (Int × Int)} (h : ∀ s ∈ xs, okS p s) : ((((xs.map (thg p)).map fun u => 1 + mzF bk (d + 1) p.sh u).sum : Nat) : Int) = wsum5 xs := by
  unfold wsum5
  induction xs with
  | nil => rfl
  | cons s xs ih =>
    have ih := ih fun t ht => h t (List.mem_cons_of_mem _ ht)
    have e := thg_m (bk := bk) (d := d) (h s List.mem_cons_self)
    simp only [List.map_cons, List.sum_cons]
    rw [Int.natCast_add, ih]
    push_cast
    rw [e]
theorem ord_lists {bk : Bk} {p : P25} {d : Nat} (k : Kd) (hk : k = .rising ∨ k = .unlike) (hx : p.x ∈ wds) {xs ys : List (Int × Int)} (h1 : ∀ s ∈ xs, okS p s) (h2 : ∀ s ∈ ys, okS p s) :
    ordF bk (d + 2) (.mk k [p.sh]) (.lst (xs.map (thg p))) (.lst (ys.map (thg p))) = due5 xs ys := by
  have m1 := mz_list (bk := bk) (d := d) h1
  have m2 := mz_list (bk := bk) (d := d) h2
  have hp := hpO_thg (bk := bk) (d := d) hx h1 h2
  unfold due5
  rw [← m1, ← m2, ← hp]
  rcases hk with rfl | rfl
  · show (if ((xs.map (thg p)).map fun u => 1 + mzF bk (d + 1) p.sh u).sum = ((ys.map (thg p)).map fun u => 1 + mzF bk (d + 1) p.sh u).sum then hpO (mzF bk (d + 1) p.sh) (ordF bk (d + 1) p.sh) (xs.map (thg p)) (ys.map (thg p)) else sgn _) = _
    by_cases c : ((xs.map (thg p)).map fun u => 1 + mzF bk (d + 1) p.sh u).sum = ((ys.map (thg p)).map fun u => 1 + mzF bk (d + 1) p.sh u).sum
    · rw [if_pos c, if_pos (by rw [c])]
    · rw [if_neg c, if_neg (fun h => c (Int.natCast_inj.mp h))]
      rfl
  · show (if ((xs.map (thg p)).map fun u => 1 + mzF bk (d + 1) p.sh u).sum = ((ys.map (thg p)).map fun u => 1 + mzF bk (d + 1) p.sh u).sum then hpO (mzF bk (d + 1) p.sh) (ordF bk (d + 1) p.sh) (xs.map (thg p)) (ys.map (thg p)) else sgn _) = _
    by_cases c : ((xs.map (thg p)).map fun u => 1 + mzF bk (d + 1) p.sh u).sum = ((ys.map (thg p)).map fun u => 1 + mzF bk (d + 1) p.sh u).sum
    · rw [if_pos c, if_pos (by rw [c])]
    · rw [if_neg c, if_neg (fun h => c (Int.natCast_inj.mp h))]
      rfl
theorem nbr_pw {o : D → D → Int} {m : Int} {R : Int × Int → Int × Int → Prop} {p : P25} : ∀ {xs : List (Int × Int)}, xs.Pairwise R → (∀ s ∈ xs, ∀ t ∈ xs, R s t → o (thg p s) (thg p t) ≤ m) → nbr o m (xs.map (thg p))
  | [], _, _ => trivial
  | [_], _, _ => trivial
  | s :: t :: xs, h, h2 => by
    obtain ⟨a, b⟩ := List.pairwise_cons.mp h
    exact ⟨h2 s (by simp) t (by simp) (a t (by simp)), nbr_pw b fun u hu v hv => h2 u (List.mem_cons_of_mem _ hu) v (List.mem_cons_of_mem _ hv)⟩
def lexLt (p q : Int × Int) : Prop := p.1 < q.1 ∨ (p.1 = q.1 ∧ p.2 < q.2)
theorem nbr_rise {bk : Bk} {p : P25} {d : Nat} (hx : p.x ∈ wds) {xs : List (Int × Int)} (h : ∀ s ∈ xs, okS p s) (hs : xs.Pairwise fun s t => lexLe s t = true) : nbr (ordF bk (d + 1) p.sh) 0 (xs.map (thg p)) :=
  nbr_pw hs fun s ms t mt q => by
    rw [lexLe_iff] at q
    rw [thg_o hx (h s ms) (h t mt)]
    unfold sgn
    split <;> split <;> (try split) <;> omega
theorem nbr_unl {bk : Bk} {p : P25} {d : Nat} (hx : p.x ∈ wds) {xs : List (Int × Int)} (h : ∀ s ∈ xs, okS p s) (hs : xs.Pairwise lexLt) : nbr (ordF bk (d + 1) p.sh) (-1) (xs.map (thg p)) :=
  nbr_pw hs fun s ms t mt q => by
    unfold lexLt at q
    rw [thg_o hx (h s ms) (h t mt)]
    unfold sgn
    split <;> split <;> (try split) <;> omega
theorem few_thg {bk : Bk} {p : P25} {d : Nat} {xs : List (Int × Int)} (h : ∀ s ∈ xs, okS p s) : few (mzF bk (d + 1) p.sh) (xs.map (thg p)) := by
  refine ⟨[0, 1, 2, 3], by decide, fun u hu => ?_⟩
  obtain ⟨s, hs, rfl⟩ := List.mem_map.mp hu
  have e := thg_m (bk := bk) (d := d) (h s hs)
  rcases okS_fst (h s hs) with q | q | q | q <;> rw [q] at e
  · simp [show mzF bk (d + 1) p.sh (thg p s) = 0 by omega]
  · simp [show mzF bk (d + 1) p.sh (thg p s) = 1 by omega]
  · simp [show mzF bk (d + 1) p.sh (thg p s) = 2 by omega]
  · simp [show mzF bk (d + 1) p.sh (thg p s) = 3 by omega]
/-- each but once -/
def once5 : List (Int × Int) → List (Int × Int) → List (Int × Int)
  | acc, [] => acc
  | acc, s :: r => once5 (if s ∈ acc then acc else acc ++ [s]) r
theorem once_pw : ∀ (r acc : List (Int × Int)), acc.Pairwise lexLt → (∀ a ∈ acc, ∀ s ∈ r, lexLe a s = true) → r.Pairwise (fun s t => lexLe s t = true) → (once5 acc r).Pairwise lexLt
  | [], acc, h, _, _ => h
  | s :: r, acc, h, h1, h2 => by
    obtain ⟨a, b⟩ := List.pairwise_cons.mp h2
    rw [once5]
    by_cases c : s ∈ acc
    · rw [if_pos c]
      exact once_pw r acc h (fun x hx t ht => h1 x hx t (List.mem_cons_of_mem _ ht)) b
    · rw [if_neg c]
      refine once_pw r _ (List.pairwise_append.mpr ⟨h, List.pairwise_singleton _ _, fun x hx t ht => ?_⟩) (fun x hx t ht => ?_) b
      · rw [List.mem_singleton] at ht
        subst ht
        have q := h1 x hx t List.mem_cons_self
        rw [lexLe_iff] at q
        unfold lexLt
        by_cases e : x = t
        · subst e; exact absurd hx c
        · rcases q with q | q
          · exact .inl q
          · refine .inr ⟨q.1, ?_⟩
            by_cases e2 : x.2 = t.2
            · exact absurd (Prod.ext q.1 e2) e
            · omega
      · rcases List.mem_append.mp hx with hx | hx
        · exact h1 x hx t (List.mem_cons_of_mem _ ht)
        · rw [List.mem_singleton] at hx
          subst hx
          exact a t ht
theorem once_mem : ∀ (r acc : List (Int × Int)), ∀ s ∈ once5 acc r, s ∈ acc ∨ s ∈ r
  | [], acc, s, h => .inl h
  | t :: r, acc, s, h => by
    rw [once5] at h
    rcases once_mem r _ s h with q | q
    · split at q
      · exact .inl q
      · rcases List.mem_append.mp q with q | q
        · exact .inl q
        · rw [List.mem_singleton] at q
          exact .inr (by rw [q]; exact List.mem_cons_self)
    · exact .inr (List.mem_cons_of_mem _ q)
theorem once_len : ∀ (r acc : List (Int × Int)), (once5 acc r).length ≤ acc.length + r.length
  | [], acc => Nat.le_refl _
  | t :: r, acc => by
    rw [once5]
    have := once_len r (if t ∈ acc then acc else acc ++ [t])
    by_cases c : t ∈ acc
    · rw [if_pos c] at this ⊢
      simp
      omega
    · rw [if_neg c] at this ⊢
      simp at this ⊢
      omega
end Law

/-! V25c: k25's spots and things, as the law makes them. -/
namespace Law
open PySem L2 Gs MCh Tb
theorem cell_val (ns : List Int) (k : Nat) : ∃ c : Int, ∀ s, S_l_cell_at [.lst (ns.map .int), .int (k : Int)] s = .ok (.int c) s := by
  by_cases h : k < ns.length
  · refine ⟨ns[k], fun s => ?_⟩
    apply runG_rt
    have e : atI (ns.map D.int) (k : Int) = some (.int ns[k]) := by
      rw [atI_ofNat _ (by simpa using h)]
      simp
    simp [h, e]
  · refine ⟨0, fun s => ?_⟩
    apply runG_rt
    simp [h]
def pD (p : P25) : D := if p.wh then .tup [.str (Str.ofString "whole"), .int p.lo, .int (p.lo + 7)] else .tup [.str (Str.ofString "text"), .str (St p.x)]
theorem pD_eq (p : P25) : p.sh.d = pD p := by
  obtain ⟨wh, lo, x⟩ := p
  cases wh <;> rfl
theorem pD_rsv (p : P25) (s : Sto) : rsv s (pD p) = pD p := by
  obtain ⟨wh, lo, x⟩ := p
  cases wh <;> rfl
theorem c_abc : Str.ofString "abc" = St [97, 98, 99] := of_St (by decide +kernel)
theorem c_bca : Str.ofString "bca" = St [98, 99, 97] := of_St (by decide +kernel)
theorem c_cba : Str.ofString "cba" = St [99, 98, 97] := of_St (by decide +kernel)
theorem c_acb : Str.ofString "acb" = St [97, 99, 98] := of_St (by decide +kernel)
theorem c_e : Str.ofString "" = St [] := of_St (by decide +kernel)
def modk (c : Int) (n : Nat) : Nat := (c % (n : Int)).toNat
theorem modk_eq (c : Int) {n : Nat} (hn : 0 < n) : c % (n : Int) = (modk c n : Int) ∧ modk c n < n := by
  have a := Int.emod_nonneg c (show (n : Int) ≠ 0 by omega)
  have b := Int.emod_lt_of_pos c (show (0 : Int) < (n : Int) by omega)
  unfold modk
  omega
theorem part_val (ns : List Int) : ∃ p : P25, p.x ∈ wds ∧ ∀ s, S_l_part [.lst (ns.map .int)] s = .ok (pD p) s := by
  obtain ⟨c, hc⟩ := cell_val ns 1
  obtain ⟨j, hj⟩ : ∃ j : Nat, modk (c / 2) 4 = j := ⟨_, rfl⟩
  obtain ⟨k, hk⟩ : ∃ k : Nat, modk c 2 = k := ⟨_, rfl⟩
  have h1 := modk_eq (c / 2) (n := 4) (by decide)
  have h2 := modk_eq c (n := 2) (by decide)
  rw [hj] at h1
  rw [hk] at h2
  have h1 : c / 2 % 4 = (j : Int) ∧ j < 4 := h1
  have h2 : c % 2 = (k : Int) ∧ k < 2 := h2
  have hc : ∀ s, S_l_cell_at [.lst (ns.map .int), .int 1] s = .ok (.int c) s := hc
  obtain ⟨x, hx, ex⟩ : ∃ x, x ∈ wds ∧ gIx (.lst [.str (St [97, 98, 99]), .str (St [98, 99, 97]), .str (St [99, 98, 97]), .str (St [97, 99, 98])]) (.int (j : Int)) = some (.str (St x)) := by
    have : j = 0 ∨ j = 1 ∨ j = 2 ∨ j = 3 := by omega
    rcases this with rfl | rfl | rfl | rfl
    · exact ⟨_, by simp [wds], rfl⟩
    · exact ⟨_, by simp [wds], rfl⟩
    · exact ⟨_, by simp [wds], rfl⟩
    · exact ⟨_, by simp [wds], rfl⟩
  obtain ⟨lo, hlo⟩ : ∃ lo, c / 2 % 100000000000000000000 - 50000000000000000000 = lo := ⟨_, rfl⟩
  have mo : IntMulOk 5 10000000000000000000 := mul_fitsR (by decide)
  refine ⟨⟨k == 0, lo, x⟩, hx, fun s => ?_⟩
  apply runG_rt
  have k2 : k = 0 ∨ k = 1 := by omega
  rcases k2 with rfl | rfl
  · simp [hc, mo, h1.1, h2.1, c_abc, c_bca, c_cba, c_acb, ex, hlo, pD]
    try rfl
  · simp [hc, mo, h1.1, h2.1, c_abc, c_bca, c_cba, c_acb, ex, hlo, pD]
    try rfl
def spt (p : P25) (z : Nat) (c : Int) : Int × Int := ((z : Int), (modk c (lim5 p.wh z) : Int))
theorem lim_pos : ∀ z < 4, ∀ b, 0 < lim5 b z := by decide +kernel
theorem spt_ok (p : P25) {z : Nat} (hz : z < 4) (c : Int) : okS p (spt p z c) := ⟨z, _, rfl, hz, (modk_eq c (lim_pos z hz p.wh)).2⟩
theorem spot_val (p : P25) {z : Nat} (hz : z < 4) (c : Int) (s : Sto) : S_l_spot [pD p, .int (z : Int), .int c] s = .ok (Gs.prD (spt p z c)) s := by
  obtain ⟨wh, lo, x⟩ := p
  have hm := (modk_eq c (lim_pos z hz wh)).1
  unfold spt Gs.prD
  rw [← hm]
  apply runG_rt
  have : z = 0 ∨ z = 1 ∨ z = 2 ∨ z = 3 := by omega
  cases wh <;> rcases this with rfl | rfl | rfl | rfl <;> simp (decide := true) [pD, lim5]
theorem thing_loop {x : List Nat} (hx : x ∈ wds) {P Q Z Y5 : Option D} {s : Sto} (hP : ∃ q, P = some q ∧ gIx q (.int 1) = some (.str (St x)) ∧ ∀ s, rsv s q = q) : ∀ (ks : List D) (n q : Nat) (a : List Nat) (y5 : Option D), ks.length = n → a.length + n ≤ 100 → ∃ y5' q',
    forD (.nm 5) L_l_thing_0 ks [P, Q, Z, some (.int (q : Int)), some (.str (St a)), y5] s = .nx [P, Q, Z, some (.int q'), some (.str (St (wd x n q a))), y5'] s
  | [], n, q, a, y5, hn, _ => by
    simp only [List.length_nil] at hn
    subst hn
    exact ⟨y5, _, rfl⟩
  | d :: ks, n, q, a, y5, hn, hl => by
    obtain ⟨n, rfl⟩ : ∃ m, n = m + 1 := ⟨ks.length, by simpa using hn.symm⟩
    obtain ⟨pp, rfl, h1, h2⟩ := hP
    have l3 := wds_len x hx
    obtain ⟨y5', q', e⟩ := thing_loop hx (P := some pp) (Q := Q) (Z := Z) (Y5 := Y5) (s := s) ⟨pp, rfl, h1, h2⟩ ks n (q / 3) (x.getD (q % 3) 0 :: a) (some d) (by simpa using hn) (by simp; omega)
    refine ⟨y5', q', ?_⟩
    have hg : x[q % 3]? = some (x.getD (q % 3) 0) := by
      rw [List.getD_eq_getElem?_getD, List.getElem?_eq_getElem (show q % 3 < x.length by omega)]
      rfl
    have a1 := at_St (T := x) (j := q % 3) (small_line (by omega)) hg
    have l2 : 1 + a.length ≤ sizeLine := small_line (by omega)
    have eq : (q : Int) / 3 = ((q / 3 : Nat) : Int) := by push_cast; rfl
    have em : (q : Int) % 3 = ((q % 3 : Nat) : Int) := by push_cast; rfl
    rw [fd_nx (δ1 := [some pp, Q, Z, some (.int (q : Int)), some (.str (St a)), some d]) (δ2 := [some pp, Q, Z, some (.int ((q / 3 : Nat) : Int)), some (.str (St (x.getD (q % 3) 0 :: a))), some d]) (s2 := s) (by simp) ?_, e]
    · rfl
    · generalize x.getD (q % 3) 0 = c at a1 ⊢
      generalize q % 3 = q3 at a1 em
      have eq2 : gDiv (.int (q : Int)) (.int 3) = some (.int ((q / 3 : Nat) : Int)) := by simp
      have eq3 : gMod (.int (q : Int)) (.int 3) = some (.int (q3 : Int)) := by simp [em]
      clear eq em hg l3 e
      generalize ((q / 3 : Nat) : Int) = qq at eq2
      generalize (q : Int) = q0 at eq2 eq3
      have eq4 : Gs.gAdd (.str (St [c])) (.str (St a)) = some (.str (St (c :: a))) := by simp [l2, St_cat]
      simp only [L_l_thing_0]
      refine sq2 (δ' := [some pp, Q, Z, some (.int q0), some (.str (St (c :: a))), some d]) (s' := s) ?_ ?_
      · simp [h1, h2, eq3, a1, eq4, -v_addS]
      · simp [eq2]
theorem thing_val {p : P25} (hx : p.x ∈ wds) {q : Int × Int} (h : okS p q) (s : Sto) : S_l_thing [pD p, Gs.prD q] s = .ok (thg p q) s := by
  obtain ⟨z, r, rfl, hz, hr⟩ := h
  obtain ⟨wh, lo, x⟩ := p
  apply runG_rt
  cases wh with
  | true =>
    have : z = 0 ∨ z = 1 ∨ z = 2 ∨ z = 3 := by omega
    rcases this with rfl | rfl | rfl | rfl <;> simp (decide := true) [pD, Gs.prD, thg, off5] <;> rfl
  | false =>
    obtain ⟨y5, q', e⟩ := thing_loop (x := x) hx (P := some (.tup [.str (Str.ofString "text"), .str (St x)])) (Q := some (.tup [.int (z : Int), .int (r : Int)])) (Z := some (.int (z : Int))) (Y5 := none) (s := s) ⟨_, rfl, rfl, fun _ => rfl⟩ (rngD 0 z) z r [] none (by simp [rngD]) (by simp; omega)
    have hr : rngOk (z : Int) := rngOk_nat (by omega)
    simp (decide := true) [pD, Gs.prD, thg, hr, c_e, e]
end Law

/-! V25d: k25's lists of spots. -/
namespace Law
open PySem L2 Gs MCh Tb
abbrev Sps := List (Int × Int)
def okL5 (p : P25) (l : Sps) : Prop := ∀ s ∈ l, okS p s
theorem okL5_snoc {p : P25} {l : Sps} {s : Int × Int} (h : okL5 p l) (h2 : okS p s) : okL5 p (l ++ [s]) := fun t ht => by
  rcases List.mem_append.mp ht with q | q
  · exact h t q
  · rw [List.mem_singleton] at q; rw [q]; exact h2
def stP (s : Sto) (a b : Sps) : Sto := s ++ [.lst (a.map Gs.prD), .lst (b.map Gs.prD)]
theorem spots_loop0 (p : P25) (L : D) (s : Sto) : ∀ (cs : List Int) (a b : Sps) (y4 y5 : Option D), a.length + cs.length ≤ 500 → b.length + cs.length ≤ 500 → okL5 p a → okL5 p b → ∃ a' b' y4' y5',
    forD (.nm 4) L_l_spots_0 (cs.map D.int) [some (pD p), some L, some (.ob s.length), some (.ob (s.length + 1)), y4, y5, none, none] (stP s a b) = .nx [some (pD p), some L, some (.ob s.length), some (.ob (s.length + 1)), y4', y5', none, none] (stP s a' b') ∧ okL5 p a' ∧ okL5 p b' ∧ a'.length ≤ a.length + cs.length ∧ b'.length ≤ b.length + cs.length
  | [], a, b, y4, y5, _, _, h1, h2 => ⟨a, b, y4, y5, rfl, h1, h2, by simp, by simp⟩
  | c :: cs, a, b, y4, y5, l1, l2, h1, h2 => by
    obtain ⟨z, hz⟩ : ∃ z, modk c 4 = z := ⟨_, rfl⟩
    have hm := modk_eq c (n := 4) (by decide)
    rw [hz] at hm
    have hm1 : c % 4 = (z : Int) := hm.1
    have sp1 := fun s => spot_val p hm.2 (c / 4) s
    have sp2 := fun s => spot_val p hm.2 (c / 324) s
    have o1 := spt_ok p hm.2 (c / 4)
    have o2 := spt_ok p hm.2 (c / 324)
    simp at l1 l2
    obtain ⟨s1, e1⟩ : ∃ q, spt p z (c / 4) = q := ⟨_, rfl⟩
    obtain ⟨s2, e2⟩ : ∃ q, (if c / 108 % 3 = 0 then spt p z (c / 324) else spt p z (c / 4)) = q := ⟨_, rfl⟩
    have o3 : okS p s2 := by rw [← e2]; split <;> assumption
    have g1 : a.length < sizeLine := Nat.lt_of_lt_of_le (show a.length < 1000 by omega) (by decide)
    have g2 : b.length < sizeLine := Nat.lt_of_lt_of_le (show b.length < 1000 by omega) (by decide)
    obtain ⟨a', b', y4', y5', e, k1, k2, k3, k4⟩ := spots_loop0 p L s cs (a ++ [s1]) (b ++ [s2]) (some (.int c)) (some (Gs.prD s2)) (by simp; omega) (by simp; omega) (okL5_snoc h1 (by rw [← e1]; exact o1)) (okL5_snoc h2 o3)
    refine ⟨a', b', y4', y5', ?_, k1, k2, by simp at k3 ⊢; omega, by simp at k4 ⊢; omega⟩
    rw [List.map_cons, fd_nx (δ1 := [some (pD p), some L, some (.ob s.length), some (.ob (s.length + 1)), some (.int c), y5, none, none]) (δ2 := [some (pD p), some L, some (.ob s.length), some (.ob (s.length + 1)), some (.int c), some (Gs.prD s2), none, none]) (s2 := stP s (a ++ [s1]) (b ++ [s2])) (by simp) ?_, e]
    have rp := pD_rsv p
    have d108 : divOk 108 := divOk_small (by decide) (by decide)
    have d324 : divOk 324 := divOk_small (by decide) (by decide)
    rw [e1] at sp1
    unfold stP
    by_cases c3 : c / 108 % 3 = 0
    · rw [if_pos c3] at e2
      rw [e2] at sp2
      simp [L_l_spots_0, d108, d324, rp, hm1, sp1, sp2, c3, stO, g1, g2, lsO]
    · rw [if_neg c3, e1] at e2
      subst e2
      simp [L_l_spots_0, d108, d324, rp, hm1, sp1, c3, stO, g1, g2, lsO]
/-- the sizes of what is put behind -/
def more5 (c : Int) : List Nat := [[], [1, 3, 2, 2], [0, 3, 1, 2], [1, 0, 0]].getD (modk c 4) []
theorem spots_loop1 (p : P25) (L Y4 : D) (s : Sto) (c : Int) (hY : Y4 = .int c) (M : List Nat) (hM : M = [] ∨ M = [1, 3, 2, 2] ∨ M = [0, 3, 1, 2] ∨ M = [1, 0, 0]) (a b : Sps) (y5 : Option D) (l1 : a.length ≤ 500) (l2 : b.length ≤ 500) (h1 : okL5 p a) (h2 : okL5 p b) : ∃ a' b' y5' y7',
    forD (.nm 7) L_l_spots_1 (rngD 0 M.length) [some (pD p), some L, some (.ob s.length), some (.ob (s.length + 1)), some Y4, y5, some (.lst (M.map fun (z : Nat) => D.int (z : Int))), none] (stP s a b) = .nx [some (pD p), some L, some (.ob s.length), some (.ob (s.length + 1)), some Y4, y5', some (.lst (M.map fun (z : Nat) => D.int (z : Int))), y7'] (stP s a' b') ∧ okL5 p a' ∧ okL5 p b' ∧ a'.length ≤ a.length + 4 ∧ b'.length ≤ b.length + 4 := by
  have rp := pD_rsv p
  have one : ∀ (k z : Nat) (a b : Sps) (y5 y7 : Option D) (ds : List D), M[k]? = some z → k < 4 → a.length ≤ 600 → b.length ≤ 600 → okL5 p a → okL5 p b → ∃ a' b' y5', okL5 p a' ∧ okL5 p b' ∧ a'.length ≤ a.length + 1 ∧ b'.length ≤ b.length + 1 ∧
      forD (.nm 7) L_l_spots_1 (.int (k : Int) :: ds) [some (pD p), some L, some (.ob s.length), some (.ob (s.length + 1)), some Y4, y5, some (.lst (M.map fun (z : Nat) => D.int (z : Int))), y7] (stP s a b) =
      forD (.nm 7) L_l_spots_1 ds [some (pD p), some L, some (.ob s.length), some (.ob (s.length + 1)), some Y4, y5', some (.lst (M.map fun (z : Nat) => D.int (z : Int))), some (.int (k : Int))] (stP s a' b') := fun k z a b y5 y7 ds hz hk la lb ha hb => by
    have hz4 : z < 4 := by
      have := List.mem_of_getElem? hz
      rcases hM with rfl | rfl | rfl | rfl <;> simp at this <;> omega
    have hl : (M.map fun (z : Nat) => D.int (z : Int)).length = M.length := by simp
    have hx : gIx (.lst (M.map fun (z : Nat) => D.int (z : Int))) (.int (k : Int)) = some (.int (z : Int)) := by
      have : (M.map fun (z : Nat) => D.int (z : Int))[k]? = some (.int (z : Int)) := by simp [hz]
      have hk : k < (M.map fun (z : Nat) => D.int (z : Int)).length := by
        have := (List.getElem?_eq_some_iff.mp this).1
        exact this
      have e := atI_ofNat _ hk
      have e2 : (M.map fun (z : Nat) => D.int (z : Int))[k] = .int (z : Int) := by
        have := List.getElem?_eq_getElem hk
        simp_all
      rw [e2] at e
      simpa using e
    have dk : divOk (3 * (k : Int) + 1) := divOk_small (by omega) (by omega)
    have hpos : 3 * (k : Int) + 1 ≠ 0 := by omega
    obtain ⟨w, hw⟩ : ∃ w, c / 4 / (3 * (k : Int) + 1) = w := ⟨_, rfl⟩
    have sp := fun s => spot_val p hz4 w s
    obtain ⟨q, hq⟩ : ∃ q, spt p z w = q := ⟨_, rfl⟩
    have oq : okS p q := by rw [← hq]; exact spt_ok p hz4 w
    rw [hq] at sp
    have g1 : a.length < sizeLine := Nat.lt_of_lt_of_le (show a.length < 1000 by omega) (by decide)
    have g2 : b.length < sizeLine := Nat.lt_of_lt_of_le (show b.length < 1000 by omega) (by decide)
    have mo2 : IntMulOk 2 (k : Int) := mul_fitsR (by simp; exact Nat.lt_trans hk (by decide))
    have mo3 : IntMulOk 3 (k : Int) := mul_fitsR (by simp; exact Nat.lt_trans hk (by decide))
    by_cases cc : (2 * k < M.length ∧ M.length = 4) ∨ (M.length = 3 ∧ k = 0)
    · refine ⟨a ++ [q], b, some (Gs.prD q), okL5_snoc ha oq, hb, by simp, by simp, ?_⟩
      refine fd_nx (δ1 := [some (pD p), some L, some (.ob s.length), some (.ob (s.length + 1)), some Y4, y5, some (.lst (M.map fun (z : Nat) => D.int (z : Int))), some (.int (k : Int))]) (by simp) ?_
      subst hY
      rcases cc with ⟨q1, q2⟩ | ⟨q1, q2⟩
      · have q1 : 2 * (k : Int) < 4 := by omega
        simp [L_l_spots_1, stP, rp, hx, mo2, mo3, dk, hpos, hw, sp, q1, q2, stO, g1, lsO]
      · subst q2
        simp at mo2 mo3 dk hw hx
        simp [L_l_spots_1, stP, rp, hx, mo2, mo3, dk, hw, sp, q1, stO, g1, lsO]
    · refine ⟨a, b ++ [q], some (Gs.prD q), ha, okL5_snoc hb oq, by simp, by simp, ?_⟩
      refine fd_nx (δ1 := [some (pD p), some L, some (.ob s.length), some (.ob (s.length + 1)), some Y4, y5, some (.lst (M.map fun (z : Nat) => D.int (z : Int))), some (.int (k : Int))]) (by simp) ?_
      subst hY
      have l34 : M.length = 4 ∨ M.length = 3 := by
        rcases hM with rfl | rfl | rfl | rfl
        · exact nomatch hz
        · exact .inl rfl
        · exact .inl rfl
        · exact .inr rfl
      rcases l34 with q2 | q2
      · have q1 : ¬ 2 * (k : Int) < 4 := by omega
        simp [L_l_spots_1, stP, rp, hx, mo2, mo3, dk, hpos, hw, sp, q1, q2, stO, g2, lsO]
      · have q1 : ¬ (k : Int) = 0 := by omega
        have q1' : ¬ k = 0 := by omega
        simp [L_l_spots_1, stP, rp, hx, mo2, mo3, dk, hpos, hw, sp, q1, q1', q2, stO, g2, lsO]
  have er : ∀ n, rngD 0 n = (List.range n).map fun (i : Nat) => D.int (i : Int) := fun n => by simp [rngD]
  have many : ∀ (ks : List Nat) (a b : Sps) (y5 y7 : Option D), (∀ k ∈ ks, k < M.length ∧ k < 4) → ks.length ≤ 4 → a.length ≤ 600 - ks.length → b.length ≤ 600 - ks.length → okL5 p a → okL5 p b → ∃ a' b' y5' y7', okL5 p a' ∧ okL5 p b' ∧ a'.length ≤ a.length + ks.length ∧ b'.length ≤ b.length + ks.length ∧
      forD (.nm 7) L_l_spots_1 (ks.map fun (i : Nat) => D.int (i : Int)) [some (pD p), some L, some (.ob s.length), some (.ob (s.length + 1)), some Y4, y5, some (.lst (M.map fun (z : Nat) => D.int (z : Int))), y7] (stP s a b) =
      .nx [some (pD p), some L, some (.ob s.length), some (.ob (s.length + 1)), some Y4, y5', some (.lst (M.map fun (z : Nat) => D.int (z : Int))), y7'] (stP s a' b') := by
    intro ks
    induction ks with
    | nil => exact fun a b y5 y7 _ _ _ _ h1 h2 => ⟨a, b, y5, y7, h1, h2, by simp, by simp, rfl⟩
    | cons k ks ih =>
      intro a b y5 y7 hk hl la lb ha hb
      simp only [List.length_cons] at hl la lb
      obtain ⟨kM, k4⟩ := hk k List.mem_cons_self
      obtain ⟨a1, b1, y51, oa, ob, la1, lb1, e1⟩ := one k M[k] a b y5 y7 (ks.map fun (i : Nat) => D.int (i : Int)) (List.getElem?_eq_getElem kM) k4 (by omega) (by omega) ha hb
      obtain ⟨a2, b2, y52, y72, oa2, ob2, la2, lb2, e2⟩ := ih a1 b1 y51 (some (.int (k : Int))) (fun j hj => hk j (List.mem_cons_of_mem _ hj)) (by omega) (by omega) (by omega) oa ob
      refine ⟨a2, b2, y52, y72, oa2, ob2, by simp; omega, by simp; omega, ?_⟩
      rw [List.map_cons, e1, e2]
  have lM : M.length ≤ 4 := by rcases hM with rfl | rfl | rfl | rfl <;> decide
  obtain ⟨a2, b2, y52, y72, oa2, ob2, la2, lb2, e2⟩ := many (List.range M.length) a b y5 none (fun k hk => by rw [List.mem_range] at hk; omega) (by simp; omega) (by simp; omega) (by simp; omega) h1 h2
  rw [List.length_range] at la2 lb2
  refine ⟨a2, b2, y52, y72, ?_, oa2, ob2, by omega, by omega⟩
  rw [er]
  exact e2
end Law

/-! V25e: k25's lists sorted, once, and the law's due. -/
namespace Law
open PySem L2 Gs MCh Tb
theorem spots_val {p : P25} (ns : List Int) (hn : ns.length ≤ 63) (s : Sto) : ∃ (a b : Sps) (g : Sto), okL5 p a ∧ okL5 p b ∧ a.length ≤ 100 ∧ b.length ≤ 100 ∧ (a.Pairwise fun s t => lexLe s t = true) ∧ (b.Pairwise fun s t => lexLe s t = true) ∧
    S_l_spots [pD p, .lst (ns.map D.int)] s = .ok (.tup [.lst (a.map Gs.prD), .lst (b.map Gs.prD)]) (s ++ g) := by
  obtain ⟨c, hc⟩ := cell_val ns 2
  have hc : ∀ s, S_l_cell_at [.lst (ns.map .int), .int 2] s = .ok (.int c) s := hc
  have rp := pD_rsv p
  obtain ⟨cs, hcs⟩ : ∃ cs, cutL ns (some 3) (some 40) = cs := ⟨_, rfl⟩
  have hcl : cs.length ≤ 63 := by
    have e := cutL_nn ns 3 40
    rw [← hcs]
    have e' : cutL ns (some 3) (some 40) = (ns.drop 3).take (40 - 3) := e
    rw [e', List.length_take, List.length_drop]
    omega
  obtain ⟨a1, b1, y4, y5, e1, oa1, ob1, la1, lb1⟩ := spots_loop0 p (.lst (ns.map D.int)) s cs [] [] none none (by simp; omega) (by simp; omega) (fun s h => absurd h List.not_mem_nil) (fun s h => absurd h List.not_mem_nil)
  simp only [List.length_nil, Nat.zero_add] at la1 lb1
  obtain ⟨M, hM, eM⟩ : ∃ M : List Nat, (M = [] ∨ M = [1, 3, 2, 2] ∨ M = [0, 3, 1, 2] ∨ M = [1, 0, 0]) ∧ gIx (.lst [.lst [], .lst [.int 1, .int 3, .int 2, .int 2], .lst [.int 0, .int 3, .int 1, .int 2], .lst [.int 1, .int 0, .int 0]]) (.int (c % 4)) = some (.lst (M.map fun (z : Nat) => D.int (z : Int))) := by
    have h1 := modk_eq c (n := 4) (by decide)
    obtain ⟨j, hj⟩ : ∃ j : Nat, modk c 4 = j := ⟨_, rfl⟩
    rw [hj] at h1
    have h1 : c % 4 = (j : Int) ∧ j < 4 := h1
    rw [h1.1]
    have : j = 0 ∨ j = 1 ∨ j = 2 ∨ j = 3 := by omega
    rcases this with rfl | rfl | rfl | rfl
    · exact ⟨[], by simp, rfl⟩
    · exact ⟨[1, 3, 2, 2], by simp, rfl⟩
    · exact ⟨[0, 3, 1, 2], by simp, rfl⟩
    · exact ⟨[1, 0, 0], by simp, rfl⟩
  obtain ⟨a2, b2, y52, y7, e2, oa2, ob2, la2, lb2⟩ := spots_loop1 p (.lst (ns.map D.int)) (.int c) s c rfl M hM a1 b1 y5 (by omega) (by omega) oa1 ob1
  have rM : rngOk (M.length : Int) := rngOk_nat (by rcases hM with rfl | rfl | rfl | rfl <;> decide)
  refine ⟨sortPr a2, sortPr b2, [.gone, .gone], fun t ht => oa2 t ((sortPr_perm a2).mem_iff.mp ht), fun t ht => ob2 t ((sortPr_perm b2).mem_iff.mp ht), by rw [(sortPr_perm a2).length_eq]; omega, by rw [(sortPr_perm b2).length_eq]; omega, sortPr_pw a2, sortPr_pw b2, ?_⟩
  apply runG_rt
  have l1 : cs.length ≤ sizeLine := small_line (by omega)
  have l2 : (ns.map D.int).length ≤ sizeLine := small_line (by simp; omega)
  have e0 : s ++ [O.lst [], O.lst []] = stP s [] [] := rfl
  have k1 := prsOf_map a2
  have k2 := prsOf_map b2
  have s2 : 2 ≤ sizeLine := by decide
  have s4 : 4 ≤ sizeLine := by decide
  have s3 : 3 ≤ sizeLine := by decide
  simp [hcs, l1, e0, e1, rp, hc, s2, s3, s4, eM, rM, e2]
  simp [stP, frzD, ePSort, k1, k2]
def pPy (q : Int × Int) : PyData := .tuple [.int q.1, .int q.2]
theorem prs_py : ∀ acc : Sps, toPyL (acc.map Gs.prD) = some (acc.map pPy) ∧ PyData.canLayAll0 (acc.map pPy) = true ∧ PyData.depthAll (acc.map pPy) ≤ 1
  | [] => ⟨by simp [toPyL], by simp [PyData.canLayAll0], by simp [PyData.depthAll]⟩
  | q :: acc => by
    obtain ⟨a, b, c⟩ := prs_py acc
    refine ⟨?_, ?_, ?_⟩
    · rw [List.map_cons, toPyL, a]
      simp [Gs.prD, toPy, toPyL, pPy]
    · rw [List.map_cons, PyData.canLayAll0, b]
      simp [pPy, PyData.canLay0, PyData.canLayAll0]
    · rw [List.map_cons, PyData.depthAll]
      simp [pPy, PyData.depth, PyData.depthAll] at c ⊢
      omega
theorem pr_eqv (p q : Int × Int) : PyData.eqv (pPy p) (pPy q) = decide (p = q) := by
  obtain ⟨a, b⟩ := p
  obtain ⟨c, d⟩ := q
  by_cases h1 : a = c <;> by_cases h2 : b = d <;> simp [pPy, PyData.eqv, PyData.eqvAll, h1, h2]
theorem nin_prs (t : Int × Int) (acc : Sps) : gNinX (Gs.prD t) (.lst (acc.map Gs.prD)) = some (.bl (decide (t ∉ acc))) := by
  obtain ⟨a, b, c⟩ := prs_py acc
  have h1 : toPy (Gs.prD t) = some (pPy t) := by simp [Gs.prD, toPy, toPyL, pPy]
  have h2 : toPy (.lst (acc.map Gs.prD)) = some (.list (acc.map pPy)) := by simp [toPy, a]
  have s1 : SeqAt.shaped (pPy t) = true := by simp [SeqAt.shaped, pPy, PyData.canLay0, PyData.canLayAll0, PyData.depth, PyData.depthAll]
  have s2 : SeqAt.shaped (.list (acc.map pPy)) = true := by
    simp [SeqAt.shaped, PyData.canLay0, PyData.depth, b]
    omega
  have ea : ((acc.map pPy).any fun z => PyData.eqv z (pPy t)) = decide (t ∈ acc) := by
    induction acc with
    | nil => simp
    | cons q acc ih =>
      have h0 := prs_py acc
      rw [List.map_cons, List.any_cons, pr_eqv, ih h0.1 h0.2.1 h0.2.2 (by simp [toPy, h0.1]) (by simp [SeqAt.shaped, PyData.canLay0, PyData.depth, h0.2.1]; have := h0.2.2; omega)]
      by_cases c1 : q = t
      · simp [c1]
      · have : ¬ t = q := fun h => c1 h.symm
        simp [c1, this]
  unfold gNinX inPy
  rw [h1, h2]
  simp only
  rw [if_pos (by rw [s1, s2]; rfl), ea]
  simp
theorem prD_rsv (s : Sto) (q : Int × Int) : rsv s (Gs.prD q) = Gs.prD q := rfl
theorem once_loop (L : D) (s : Sto) : ∀ (r acc : Sps) (y : Option D), acc.length + r.length ≤ 500 → ∃ y',
    forD (.nm 2) L_l_once_0 (r.map Gs.prD) [some L, some (.ob s.length), y] (s ++ [.lst (acc.map Gs.prD)]) = .nx [some L, some (.ob s.length), y'] (s ++ [.lst ((once5 acc r).map Gs.prD)])
  | [], acc, y, _ => ⟨y, rfl⟩
  | t :: r, acc, y, hl => by
    simp at hl
    have en : gNinX (Gs.prD t) (.lst (acc.map Gs.prD)) = some (.bl (decide (t ∉ acc))) := nin_prs t acc
    have g1 : acc.length < sizeLine := Nat.lt_of_lt_of_le (show acc.length < 1000 by omega) (by decide)
    by_cases c : t ∈ acc
    · obtain ⟨y', e⟩ := once_loop L s r acc (some (Gs.prD t)) (by omega)
      refine ⟨y', ?_⟩
      rw [List.map_cons, fd_nx (δ1 := [some L, some (.ob s.length), some (Gs.prD t)]) (δ2 := [some L, some (.ob s.length), some (Gs.prD t)]) (s2 := s ++ [.lst (acc.map Gs.prD)]) (by simp) (by simp [L_l_once_0, prD_rsv, en, c]), once5, if_pos c, e]
    · obtain ⟨y', e⟩ := once_loop L s r (acc ++ [t]) (some (Gs.prD t)) (by simp; omega)
      refine ⟨y', ?_⟩
      rw [List.map_cons, fd_nx (δ1 := [some L, some (.ob s.length), some (Gs.prD t)]) (δ2 := [some L, some (.ob s.length), some (Gs.prD t)]) (s2 := s ++ [.lst ((acc ++ [t]).map Gs.prD)]) (by simp) (by simp [L_l_once_0, prD_rsv, en, c, g1, stO]), once5, if_neg c, e]
theorem once_val (r : Sps) (hl : r.length ≤ 200) (s : Sto) : S_l_once [.lst (r.map Gs.prD)] s = .ok (.lst ((once5 [] r).map Gs.prD)) (s ++ [.gone]) := by
  obtain ⟨y, e⟩ := once_loop (.lst (r.map Gs.prD)) s r [] none (by simp; omega)
  simp only [List.map_nil] at e
  apply runG_rt
  simp [e]
theorem lcD_filt {α : Type} {p : Pt} {c : T} {e : E} {δ : Sl} {s : Sto} (g : α → D) (q : α → Bool) : ∀ l : List α, (∀ a ∈ l, ∃ δ1, bindP p (g a) δ = some δ1 ∧ c δ1 s = .ok (q a) s ∧ e δ1 s = .ok (g a) s) → lcD p c e δ (l.map g) s = .ok ((l.filter q).map g) s
  | [], _ => rfl
  | a :: l, h => by
    obtain ⟨δ1, h1, h2, h3⟩ := h a List.mem_cons_self
    have ih := lcD_filt g q l fun b hb => h b (List.mem_cons_of_mem _ hb)
    rw [List.map_cons, lcD]
    simp only [h1, h2]
    cases hq : q a with
    | true => simp [h3, ih, hq]
    | false => simp [ih, hq]
theorem sum_lc (xs : Sps) (δ : Sl) (hd : δ.length = 11) (s : Sto) : lcD (.tp [.nm 4, .nm 9]) tTrue (eBin Gs.gAdd (eC (.int 1)) (eV 4)) δ (xs.map Gs.prD) s = .ok ((xs.map fun q => 1 + q.1).map D.int) s := by
  rw [List.map_map]
  exact lcD_mapL _ _ _ fun q _ => ⟨_, by simp [Gs.prD]; rfl, by simp, by simp [hd]⟩
theorem here_lc (xs : Sps) (z : Int) (a0 a1 a2 a3 a5 a6 a7 a8 a9 a10 : Option D) (s : Sto) : lcD (.nm 10) (tV (eBin gEq (eBin gIx (eV 10) (eC (.int 0))) (eV 4))) (eV 10) [a0, a1, a2, a3, some (.int z), a5, a6, a7, a8, a9, a10] (xs.map Gs.prD) s = .ok ((hsz z xs).map Gs.prD) s :=
  lcD_filt _ _ _ fun q _ => ⟨_, by simp; rfl, by simp [Gs.prD], by simp⟩
theorem sgn_i (a b : Int) : (if a > b then (1 : Int) else 0) - (if a < b then (1 : Int) else 0) = sgn (a - b) := by
  unfold sgn
  split <;> split <;> (try split) <;> (try split) <;> omega
theorem i_b2 (b : Bool) : gInt [.bl b] = some (.int (if b = true then 1 else 0)) := by cases b <;> rfl
theorem i_gt (a b : Int) : Gs.gSub (.int (if a > b then (1 : Int) else 0)) (.int (if a < b then (1 : Int) else 0)) = some (.int (sgn (a - b))) := by
  rw [← sgn_i]
  simp
theorem due_loop1 {a0 a1 a2 a3 a4 a5 a6 a9 a10 : Option D} {s : Sto} {z : Int} : ∀ (xs ys : Sps) (y7 y8 : Option D), (∀ q ∈ xs, q.1 = z) → (∀ q ∈ ys, q.1 = z) →
    ∃ y7' y8', forD (.tp [.nm 7, .nm 8]) L_l_due_1 (zipD (xs.map Gs.prD) (ys.map Gs.prD)) [a0, a1, a2, a3, a4, a5, a6, y7, y8, a9, a10] s = if fnz (zw5 xs ys) = 0 then .nx [a0, a1, a2, a3, a4, a5, a6, y7', y8', a9, a10] s else .rt (.int (fnz (zw5 xs ys))) s
  | [], _, y7, y8, _, _ => ⟨y7, y8, by simp [zipD, zw5, fnz, forD]⟩
  | _ :: _, [], y7, y8, _, _ => ⟨y7, y8, by simp [zipD, zw5, fnz, forD]⟩
  | x :: xs, y :: ys, y7, y8, h1, h2 => by
    have e1 := h1 x List.mem_cons_self
    have e2 := h2 y List.mem_cons_self
    obtain ⟨y7', y8', ih⟩ := due_loop1 (a0 := a0) (a1 := a1) (a2 := a2) (a3 := a3) (a4 := a4) (a5 := a5) (a6 := a6) (a9 := a9) (a10 := a10) (s := s) (z := z) xs ys (some (Gs.prD x)) (some (Gs.prD y)) (fun q hq => h1 q (List.mem_cons_of_mem _ hq)) fun q hq => h2 q (List.mem_cons_of_mem _ hq)
    have ez : zipD ((x :: xs).map Gs.prD) ((y :: ys).map Gs.prD) = .tup [Gs.prD x, Gs.prD y] :: zipD (xs.map Gs.prD) (ys.map Gs.prD) := rfl
    have ew : zw5 (x :: xs) (y :: ys) = sgn (x.2 - y.2) :: zw5 xs ys := rfl
    have g := i_gt x.2 y.2
    obtain ⟨p1, p2⟩ := x
    obtain ⟨q1, q2⟩ := y
    simp only at e1 e2 g ew
    subst e1
    subst e2
    rw [ez, ew, fnz]
    by_cases c : p2 = q2
    · subst c
      have s0 : sgn (p2 - p2) = 0 := by rw [Int.sub_self]; rfl
      refine ⟨y7', y8', ?_⟩
      rw [if_pos s0, fd_nx (δ1 := [a0, a1, a2, a3, a4, a5, a6, some (Gs.prD (q1, p2)), some (Gs.prD (q1, p2)), a9, a10]) (δ2 := [a0, a1, a2, a3, a4, a5, a6, some (Gs.prD (q1, p2)), some (Gs.prD (q1, p2)), a9, a10]) (s2 := s) (by simp) (by simp [L_l_due_1, Gs.prD]), ih]
    · have s0 : ¬ sgn (p2 - q2) = 0 := by rw [sgn_0]; omega
      refine ⟨y7', y8', ?_⟩
      rw [if_neg s0, if_neg s0]
      exact fd_rt (δ1 := [a0, a1, a2, a3, a4, a5, a6, some (Gs.prD (q1, p2)), some (Gs.prD (q1, q2)), a9, a10]) (by simp) (by simp [L_l_due_1, Gs.prD, c, i_b2]; simpa using g)
theorem due_loop0 {a2 a3 : Option D} {s : Sto} {xs ys : Sps} (lx : xs.length ≤ 200) (ly : ys.length ≤ 200) : ∀ (zs : List Int) (y4 y5 y6 y7 y8 : Option D),
    ∃ y4' y5' y6' y7' y8', forD (.nm 4) L_l_due_0 (zs.map D.int) [some (.lst (xs.map Gs.prD)), some (.lst (ys.map Gs.prD)), a2, a3, y4, y5, y6, y7, y8, none, none] s =
      if fnz (zs.map (turn5 xs ys)) = 0 then .nx [some (.lst (xs.map Gs.prD)), some (.lst (ys.map Gs.prD)), a2, a3, y4', y5', y6', y7', y8', none, none] s else .rt (.int (fnz (zs.map (turn5 xs ys)))) s
  | [], y4, y5, y6, y7, y8 => ⟨y4, y5, y6, y7, y8, by simp [fnz, forD]⟩
  | z :: zs, y4, y5, y6, y7, y8 => by
    have h1 := fun a5 a6 => here_lc xs z (some (.lst (xs.map Gs.prD))) (some (.lst (ys.map Gs.prD))) a2 a3 a5 a6 y7 y8 none none s
    have h2 := fun a5 a6 => here_lc ys z (some (.lst (xs.map Gs.prD))) (some (.lst (ys.map Gs.prD))) a2 a3 a5 a6 y7 y8 none none s
    have l1 : (hsz z xs).length ≤ 200 := Nat.le_trans (List.length_filter_le _ _) lx
    have l2 : (hsz z ys).length ≤ 200 := Nat.le_trans (List.length_filter_le _ _) ly
    have k1 : (hsz z xs).length ≤ sizeLine := small_line (by omega)
    have k2 : (hsz z ys).length ≤ sizeLine := small_line (by omega)
    have g := i_gt ((hsz z xs).length : Int) ((hsz z ys).length : Int)
    have tu : turn5 xs ys z = if (hsz z xs).length = (hsz z ys).length then fnz (zw5 (hsz z xs).reverse (hsz z ys).reverse) else sgn ((hsz z xs).length - (hsz z ys).length) := rfl
    have m1 : ∀ q ∈ (hsz z xs).reverse, q.1 = z := fun q hq => (hsz_mem (List.mem_reverse.mp hq)).2
    have m2 : ∀ q ∈ (hsz z ys).reverse, q.1 = z := fun q hq => (hsz_mem (List.mem_reverse.mp hq)).2
    generalize hsz z xs = A at *
    generalize hsz z ys = B at *
    obtain ⟨y7', y8', w⟩ := due_loop1 (a0 := some (.lst (xs.map Gs.prD))) (a1 := some (.lst (ys.map Gs.prD))) (a2 := a2) (a3 := a3) (a4 := some (.int z)) (a5 := some (.lst (A.map Gs.prD))) (a6 := some (.lst (B.map Gs.prD))) (a9 := none) (a10 := none) (s := s) (z := z) A.reverse B.reverse y7 y8 m1 m2
    rw [List.map_cons, List.map_cons, fnz]
    by_cases c : A.length = B.length
    · rw [if_pos c] at tu
      rw [tu]
      by_cases c2 : fnz (zw5 A.reverse B.reverse) = 0
      · rw [if_pos c2] at w
        obtain ⟨z4, z5, z6, z7, z8, ih⟩ := due_loop0 (a2 := a2) (a3 := a3) (s := s) lx ly zs (some (.int z)) (some (.lst (A.map Gs.prD))) (some (.lst (B.map Gs.prD))) y7' y8'
        refine ⟨z4, z5, z6, z7, z8, ?_⟩
        rw [if_pos c2, fd_nx (δ1 := [some (.lst (xs.map Gs.prD)), some (.lst (ys.map Gs.prD)), a2, a3, some (.int z), y5, y6, y7, y8, none, none]) (δ2 := [some (.lst (xs.map Gs.prD)), some (.lst (ys.map Gs.prD)), a2, a3, some (.int z), some (.lst (A.map Gs.prD)), some (.lst (B.map Gs.prD)), y7', y8', none, none]) (s2 := s) (by simp) ?_, ih]
        simp only [List.map_reverse] at w
        simp [L_l_due_0, wipeD, h1, h2, k1, k2, c, w]
      · rw [if_neg c2] at w
        refine ⟨none, none, none, none, none, ?_⟩
        rw [if_neg c2, if_neg c2]
        refine fd_rt (δ1 := [some (.lst (xs.map Gs.prD)), some (.lst (ys.map Gs.prD)), a2, a3, some (.int z), y5, y6, y7, y8, none, none]) (by simp) ?_
        simp only [List.map_reverse] at w
        simp [L_l_due_0, wipeD, h1, h2, k1, k2, c, w]
    · rw [if_neg c] at tu
      have s0 : ¬ sgn ((A.length : Int) - (B.length : Int)) = 0 := by rw [sgn_0]; omega
      refine ⟨none, none, none, none, none, ?_⟩
      rw [tu, if_neg s0, if_neg s0]
      refine fd_rt (δ1 := [some (.lst (xs.map Gs.prD)), some (.lst (ys.map Gs.prD)), a2, a3, some (.int z), y5, y6, y7, y8, none, none]) (by simp) ?_
      have c' : ¬ (A.length : Int) = (B.length : Int) := by omega
      simp at g
      simp [L_l_due_0, wipeD, h1, h2, k1, k2, c, c', i_b2, g]
theorem ints_all : ∀ l : List Int, intsOf (l.map D.int) = some l
  | [] => rfl
  | x :: l => by simp [intsOf, ints_all l]
theorem due_val {xs ys : Sps} (lx : xs.length ≤ 200) (ly : ys.length ≤ 200) (s : Sto) : S_l_due [.lst (xs.map Gs.prD), .lst (ys.map Gs.prD)] s = .ok (.int (due5 xs ys)) s := by
  have h1 := fun δ h => sum_lc xs δ h s
  have h2 := fun δ h => sum_lc ys δ h s
  have k1 : xs.length ≤ sizeLine := small_line (by omega)
  have k2 : ys.length ≤ sizeLine := small_line (by omega)
  have s1 : gSumA [.lst ((xs.map fun q => 1 + q.1).map D.int)] = some (.int (wsum5 xs)) := by rw [v_sumA_lst, ints_all]; rfl
  have s2 : gSumA [.lst ((ys.map fun q => 1 + q.1).map D.int)] = some (.int (wsum5 ys)) := by rw [v_sumA_lst, ints_all]; rfl
  have g := i_gt (wsum5 xs) (wsum5 ys)
  have r4 : rngOk 4 := rngOk_nat (j := 4) (by decide)
  obtain ⟨z4, z5, z6, z7, z8, e⟩ := due_loop0 (a2 := some (.int (wsum5 xs))) (a3 := some (.int (wsum5 ys))) (s := s) lx ly [0, 1, 2, 3] none none none none none
  have er : rngD 0 4 = [.int 0, .int 1, .int 2, .int 3] := rfl
  apply runG_rt
  unfold due5
  have q1 : (((xs.map fun q => 1 + q.1).map D.int)).length ≤ sizeLine := by simpa using k1
  have q2 : (((ys.map fun q => 1 + q.1).map D.int)).length ≤ sizeLine := by simpa using k2
  generalize (xs.map fun q => 1 + q.1).map D.int = A at h1 s1 q1
  generalize (ys.map fun q => 1 + q.1).map D.int = B at h2 s2 q2
  by_cases c : wsum5 xs = wsum5 ys
  · rw [if_pos c]
    rw [c] at e s1
    by_cases c2 : fnz (([0, 1, 2, 3] : List Int).map (turn5 xs ys)) = 0
    · rw [if_pos c2] at e
      have e : forD _ _ [.int 0, .int 1, .int 2, .int 3] _ _ = _ := e
      rw [c2]
      simp [wipeD, h1, h2, q1, q2, s1, s2, r4, er, e]
    · rw [if_neg c2] at e
      generalize fnz (([0, 1, 2, 3] : List Int).map (turn5 xs ys)) = w at e
      have e : forD _ _ [.int 0, .int 1, .int 2, .int 3] _ _ = _ := e
      simp [wipeD, h1, h2, q1, q2, s1, s2, r4, er, e]
  · rw [if_neg c]
    simp at g
    simp [wipeD, h1, h2, q1, q2, s1, s2, c, i_b2, g]
end Law

/-! V25f: k25's law. -/
namespace Law
open PySem L2 Gs MCh Tb
theorem okBk0 : okBk [] := fun n p h => nomatch h
theorem sh_ok (p : P25) : p.sh.ok := by
  obtain ⟨wh, lo, x⟩ := p
  cases wh <;> exact ⟨rfl, trivial⟩
theorem fit_thg {p : P25} (hx : p.x ∈ wds) {q : Int × Int} (h : okS p q) {n : Nat} : fS (n + 1) (bookD []) p.sh.d (thg p q) true := by
  have v := thg_V (bk := []) (d := 0) hx h
  obtain ⟨z, r, rfl, hz, hr⟩ := h
  obtain ⟨wh, lo, x⟩ := p
  cases wh with
  | true =>
    obtain ⟨i, e, h1, h2⟩ := v
    have := fit_whole (n := n) (B := bookD []) (lo := lo) (hi := lo + 7) (i := i)
    rw [decide_eq_true ⟨h1, h2⟩] at this
    rw [e]
    exact this
  | false =>
    obtain ⟨l, e, h1, h2⟩ := v
    have := fit_text (n := n) (B := bookD []) (x := x) (l := l) h1
    have h2 : ∀ c ∈ l, c ∈ x := h2
    rw [List.all_eq_true.mpr fun c hc => decide_eq_true (h2 c hc)] at this
    rw [e]
    exact this
def kd5 (u : Bool) : Kd := if u then .unlike else .rising
def shp5 (u : Bool) (p : P25) : Sh := .mk (kd5 u) [p.sh]
def good5 (u : Bool) (p : P25) (l : Sps) : Prop := okL5 p l ∧ l.length ≤ 100 ∧ if u = true then l.Pairwise lexLt else l.Pairwise fun s t => lexLe s t = true
theorem list_V {u : Bool} {p : P25} (hx : p.x ∈ wds) {l : Sps} (h : good5 u p l) : Vd [] 2 (shp5 u p) (.lst (l.map (thg p))) := by
  obtain ⟨h1, h2, h3⟩ := h
  have hv : ∀ v ∈ l.map (thg p), Vd [] 1 p.sh v := fun v hv => by
    obtain ⟨q, hq, rfl⟩ := List.mem_map.mp hv
    exact thg_V hx (h1 q hq)
  have hl : (l.map (thg p)).length ≤ 1000 := by simp; omega
  cases u with
  | true => exact ⟨_, rfl, hl, hv, nbr_unl hx h1 (by simpa using h3), few_thg h1⟩
  | false => exact ⟨_, rfl, hl, hv, nbr_rise hx h1 (by simpa using h3), few_thg h1⟩
theorem ord_el {p : P25} {u v : D} (h1 : Vd [] 1 p.sh u) (h2 : Vd [] 1 p.sh v) : oS 20 (bookD []) p.sh.d u v (ordF [] 1 p.sh u v) := ord_val okBk0 1 p.sh u v 20 (sh_ok p) h1 h2 (by decide) (by decide)
theorem list_fit {u : Bool} {p : P25} (hx : p.x ∈ wds) {l : Sps} (h : good5 u p l) : fS 20 (bookD []) (shp5 u p).d (.lst (l.map (thg p))) true := by
  obtain ⟨h1, h2, h3⟩ := h
  have hv : ∀ v ∈ l.map (thg p), Vd [] 1 p.sh v := fun v hv => by
    obtain ⟨q, hq, rfl⟩ := List.mem_map.mp hv
    exact thg_V hx (h1 q hq)
  have hf : ∀ v ∈ l.map (thg p), fS 18 (bookD []) p.sh.d v true := fun v hv => by
    obtain ⟨q, hq, rfl⟩ := List.mem_map.mp hv
    exact fit_thg hx (h1 q hq)
  have hl : (l.map (thg p)).length ≤ 1000 := by simp; omega
  have ho : ∀ u ∈ l.map (thg p), ∀ v ∈ l.map (thg p), oS 20 (bookD []) p.sh.d u v (ordF [] 1 p.sh u v) := fun u hu v hv' => ord_el (hv u hu) (hv v hv')
  cases u with
  | true =>
    have := fit_unlike (n := 18) hl hf ho
    rw [decide_eq_true (nbr_unl hx h1 (by simpa using h3))] at this
    exact this
  | false =>
    have := fit_rising (n := 18) hl hf ho
    rw [decide_eq_true (nbr_rise hx h1 (by simpa using h3))] at this
    exact this
theorem compared_val {u : Bool} {p : P25} (hx : p.x ∈ wds) {xs ys : Sps} (h1 : good5 u p xs) (h2 : good5 u p ys) (s : Sto) : ∃ g, S_compared [.lst [], (shp5 u p).d, .lst (xs.map (thg p)), .lst (ys.map (thg p))] s = .ok (.int (due5 xs ys)) (s ++ g) := by
  have o := ord_val (bk := []) okBk0 2 (shp5 u p) _ _ 20 (by cases u <;> exact ⟨rfl, sh_ok p, trivial⟩) (list_V hx h1) (list_V hx h2) (by decide) (by decide)
  have e : ordF [] 2 (shp5 u p) (.lst (xs.map (thg p))) (.lst (ys.map (thg p))) = due5 xs ys := ord_lists (bk := []) (d := 0) (kd5 u) (by cases u <;> simp [kd5]) hx h1.1 h2.1
  rw [e] at o
  exact compared_ok (list_fit hx h1) (list_fit hx h2) o s
theorem eqk_St {k : Nat} {l : List Nat} (h : ∀ c ∈ l, c < 256) : eqk k (.str (St l)) := eqk_str k (by
  show (St l).cps.all (· < 0x110000) = true
  rw [Array.all_eq_true']
  intro c hc
  have : c ∈ l := by simpa [St] using hc
  have := h c this
  simp
  omega)
theorem thg_eqk {p : P25} (hx : p.x ∈ wds) {q : Int × Int} (h : okS p q) : eqk 0 (thg p q) := by
  have v := thg_V (bk := []) (d := 0) hx h
  obtain ⟨z, r, rfl, hz, hr⟩ := h
  obtain ⟨wh, lo, x⟩ := p
  cases wh with
  | true => exact eqk_int 0 _
  | false =>
    obtain ⟨l, e, h1, h2⟩ := v
    rw [e]
    refine eqk_St fun c hc => ?_
    have := h2 c hc
    have hx : x ∈ wds := hx
    have h3 : ∀ x ∈ wds, ∀ c ∈ x, c < 256 := by decide
    exact h3 x hx c this
theorem asked_val {u : Bool} {p : P25} (hx : p.x ∈ wds) {xs ys : Sps} (h1 : good5 u p xs) (h2 : good5 u p ys) {z : Int} (hz : z = due5 xs ys) (s : Sto) : ∃ g, S_l_asked [(shp5 u p).d, .lst (xs.map (thg p)), .lst (ys.map (thg p)), .int z] s = .ok (.bl true) (s ++ g) := by
  obtain ⟨g, e⟩ := compared_val hx h1 h2 s
  rw [← hz] at e
  have rs : ∀ s, rsv s (shp5 u p).d = (shp5 u p).d := fun s => by cases u <;> rfl
  have hw : ∀ s, S_l_whole [.int z] s = .ok (.bl true) s := fun s => by
    apply runG_rt
    simp (decide := true) [tyN, isTy]
  have eq : gEq (.lst [.lst (xs.map (thg p)), .lst (ys.map (thg p))]) (.lst [.lst (xs.map (thg p)), .lst (ys.map (thg p))]) = some (.bl true) := by
    have k1 : ∀ xs, okL5 p xs → eqk 1 (.lst (xs.map (thg p))) := fun xs h => eqk_lst fun v hv => by
      obtain ⟨q, hq, rfl⟩ := List.mem_map.mp hv
      exact thg_eqk hx (h q hq)
    have k2 : eqk 2 (.lst [.lst (xs.map (thg p)), .lst (ys.map (thg p))]) := eqk_lst fun v hv => by
      simp at hv
      rcases hv with rfl | rfl
      · exact k1 xs h1.1
      · exact k1 ys h2.1
    unfold gEq
    rw [eqO_self k2 (by decide)]
    rfl
  have lx : xs.length ≤ sizeLine := small_line (by have := h1.2.1; omega)
  have ly : ys.length ≤ sizeLine := small_line (by have := h2.2.1; omega)
  have s2 : 2 ≤ sizeLine := by decide
  have s0 : 0 ≤ sizeLine := by decide
  refine ⟨g, ?_⟩
  apply runG_rt
  simp [rs, lx, ly, s2, s0, e, hw, eq]
theorem law_true (ns : List Int) (hn : ns.length ≤ 63) : ∃ s', S_law [.lst (ns.map D.int)] [] = .ok (.bl true) s' := by
  obtain ⟨p, hx, hp⟩ := part_val ns
  obtain ⟨a, b, g, oa, ob, la, lb, pa, pb, e1⟩ := spots_val (p := p) ns hn []
  obtain ⟨c0, h0⟩ := cell_val ns 0
  have h0 : ∀ s, S_l_cell_at [.lst (ns.map .int), .int 0] s = .ok (.int c0) s := h0
  have rp := pD_rsv p
  have k0 := hp []
  -- the rest, for any shape and lists
  have rest : ∀ (u : Bool) (xs ys : Sps) (s : Sto) (δ : Sl), good5 u p xs → good5 u p ys → δ = [some (.lst (ns.map .int)), some (pD p), some (.lst (xs.map Gs.prD)), some (.lst (ys.map Gs.prD)), some (shp5 u p).d, none, none, none, none] → ∃ s',
      (sSeq (sSet 5 (eCall S_l_due (aCons (eV 2) (aCons (eV 3) (aNil)))))
    (sSeq (sSet 6 (eFz (fLc (iSeq (eV 2)) [8] (.nm 8) (tTrue) (eCall S_l_thing (aCons (eV 1) (aCons (eV 8) (aNil)))))))
    (sSeq (sSet 7 (eFz (fLc (iSeq (eV 3)) [8] (.nm 8) (tTrue) (eCall S_l_thing (aCons (eV 1) (aCons (eV 8) (aNil)))))))
    (sSeq (sIf (tOrr (tNt (tV (eCall S_l_asked (aCons (eV 4) (aCons (eV 6) (aCons (eV 7) (aCons (eV 5) (aNil)))))))) (tNt (tV (eCall S_l_asked (aCons (eV 4) (aCons (eV 7) (aCons (eV 6) (aCons (eBin Gs.gSub (eC (.int 0)) (eV 5)) (aNil))))))))) (sRet (eC (.bl false))) (sNx))
    (sRet (eCall S_l_asked (aCons (eV 4) (aCons (eV 6) (aCons (eV 6) (aCons (eC (.int 0)) (aNil))))))))))) δ s = .rt (.bl true) s' := by
    intro u xs ys s δ hxs hys hδ
    subst hδ
    have ed := due_val (xs := xs) (ys := ys) (by have := hxs.2.1; omega) (by have := hys.2.1; omega) s
    have rs : ∀ s, rsv s (shp5 u p).d = (shp5 u p).d := fun s => by cases u <;> rfl
    have lx : xs.length ≤ sizeLine := small_line (by have := hxs.2.1; omega)
    have ly : ys.length ≤ sizeLine := small_line (by have := hys.2.1; omega)
    have th : ∀ (l : Sps), okL5 p l → ∀ (a0 a2 a3 a4 a5 a6 a7 a8 : Option D), lcD (.nm 8) tTrue (eCall S_l_thing (aCons (eV 1) (aCons (eV 8) aNil))) [a0, some (pD p), a2, a3, a4, a5, a6, a7, a8] (l.map Gs.prD) s = .ok (l.map (thg p)) s := fun l hl a0 a2 a3 a4 a5 a6 a7 a8 =>
      lcD_mapL _ _ _ fun q hq => ⟨_, by simp; rfl, by simp, by simp [rp, prD_rsv, thing_val hx (hl q hq)]⟩
    have t1 := th xs hxs.1
    have t2 := th ys hys.1
    obtain ⟨g1, q1⟩ := asked_val hx hxs hys (z := due5 xs ys) rfl s
    obtain ⟨g2, q2⟩ := asked_val hx hys hxs (z := 0 - due5 xs ys) (by rw [due5_neg xs ys]; omega) (s ++ g1)
    obtain ⟨g3, q3⟩ := asked_val hx hxs hxs (z := 0) (due5_self xs).symm (s ++ g1 ++ g2)
    refine ⟨s ++ g1 ++ g2 ++ g3, ?_⟩
    simp at q2 q3
    simp [wipeD, ed, rs, lx, ly, t1, t2, q1, q2, q3]
  by_cases c : c0 % 2 = 1
  · have o1 := once_val a (by omega) g
    have o2 := once_val b (by omega) (g ++ [.gone])
    obtain ⟨s', e⟩ := rest true (once5 [] a) (once5 [] b) (g ++ [.gone] ++ [.gone]) _ ⟨fun s hs => oa s ((once_mem a [] s hs).resolve_left (List.not_mem_nil)), by have := once_len a []; simp at this; omega, by rw [if_pos rfl]; exact once_pw a [] .nil (fun x hx => absurd hx List.not_mem_nil) pa⟩
      ⟨fun s hs => ob s ((once_mem b [] s hs).resolve_left (List.not_mem_nil)), by have := once_len b []; simp at this; omega, by rw [if_pos rfl]; exact once_pw b [] .nil (fun x hx => absurd hx List.not_mem_nil) pb⟩ rfl
    refine ⟨s', ?_⟩
    apply runG_rt
    have ed : (shp5 true p).d = .tup [.str (Str.ofString "unlike"), pD p] := by rw [← pD_eq]; rfl
    rw [ed] at e
    simp at e1 o2
    refine sq2 (δ' := [some (.lst (ns.map .int)), some (pD p), none, none, none, none, none, none, none]) (s' := []) (by simp [k0]) ?_
    refine sq2 (δ' := [some (.lst (ns.map .int)), some (pD p), some (.lst (a.map Gs.prD)), some (.lst (b.map Gs.prD)), none, none, none, none, none]) (s' := g) (by simp [rp, e1]) ?_
    refine sq2 (δ' := [some (.lst (ns.map .int)), some (pD p), some (.lst (a.map Gs.prD)), some (.lst (b.map Gs.prD)), some (.tup [.str (Str.ofString "rising"), pD p]), none, none, none, none]) (s' := g) (by simp [rp]) ?_
    refine sq2 (δ' := [some (.lst (ns.map .int)), some (pD p), some (.lst ((once5 [] a).map Gs.prD)), some (.lst ((once5 [] b).map Gs.prD)), some (.tup [.str (Str.ofString "unlike"), pD p]), none, none, none, none]) (s' := g ++ [.gone] ++ [.gone]) (by simp [rp, h0, c, o1, o2]) ?_
    exact e
  · obtain ⟨s', e⟩ := rest false a b g _ ⟨oa, by omega, by simpa using pa⟩ ⟨ob, by omega, by simpa using pb⟩ rfl
    refine ⟨s', ?_⟩
    apply runG_rt
    have ed : (shp5 false p).d = .tup [.str (Str.ofString "rising"), pD p] := by rw [← pD_eq]; rfl
    rw [ed] at e
    simp at e1
    refine sq2 (δ' := [some (.lst (ns.map .int)), some (pD p), none, none, none, none, none, none, none]) (s' := []) (by simp [k0]) ?_
    refine sq2 (δ' := [some (.lst (ns.map .int)), some (pD p), some (.lst (a.map Gs.prD)), some (.lst (b.map Gs.prD)), none, none, none, none, none]) (s' := g) (by simp [rp, e1]) ?_
    refine sq2 (δ' := [some (.lst (ns.map .int)), some (pD p), some (.lst (a.map Gs.prD)), some (.lst (b.map Gs.prD)), some (.tup [.str (Str.ofString "rising"), pD p]), none, none, none, none]) (s' := g) (by simp [rp]) ?_
    refine sq2 (δ' := [some (.lst (ns.map .int)), some (pD p), some (.lst (a.map Gs.prD)), some (.lst (b.map Gs.prD)), some (.tup [.str (Str.ofString "rising"), pD p]), none, none, none, none]) (s' := g) (by simp [rp, h0, c]) ?_
    exact e
end Law

open PySem PySem.W
set_option maxRecDepth 100000 in
set_option maxHeartbeats 0 in
theorem PySem.Challenge.cw_countgen_k25_lists_in_order_compared_holds : PySem.Challenge.rw_countgen_k25_lists_in_order_compared.Holds := by
  w_on; o_law; k_head; (case hw => w_witness2)
  k_fill
  refine L2.walk_of (l := PySem.Challenge.rw_countgen_k25_lists_in_order_compared) (n := 63) (k := 66) (x := "_law_script") (CX := fun w => L2.CX (PySem.W.OpenLaw.prog PySem.Challenge.rw_countgen_k25_lists_in_order_compared) w) (sp := fun w => Gs.spL _ Law.S_law) rfl (by decide) rfl ⟨rfl, by decide, by decide⟩ (fun w h Y => PySem.W.kIn_of Y) ?F
    (fun w H a ns hl _ hS => Gs.law_sp hS (Law.law_true ns hl)) (fun _ _ _ _ _ h => Gs.law_cx h)
  case F =>
    intro w mg fa h KX G hmg
    refine' Law.all_mk KX G hmg ?c0 ?c1 ?c2 ?c3 ?c4 ?c5 ?c6 ?c7 ?c8 ?c9 ?c10 ?c11 ?c12 ?c13 ?c14 ?c15 ?c16 ?c17 ?c18 ?c19 ?c20 ?c21 ?c22 ?c23 ?c24 ?c25 ?c26 ?c27 ?c28 ?c29 ?c30 ?c31 ?c32 ?c33 ?c34 ?c35 ?c36 ?c37 ?c38 ?c39 ?c40 ?c41 ?c42 ?c43 ?c44 ?c45 ?c46 ?c47 ?c48 ?c49 ?c50 ?c51 ?c52 ?c53 ?c54 ?c55 ?c56 ?c57 ?c58 ?c59 ?c60 ?c61 ?c62 ?c63 ?c64 ?c65 ?c66 ?c67 ?c68 ?c69 ?c70 ?c71 ?c72 ?c73 ?c74 ?c75 ?c76 ?c77 ?c78 ?c79 ?c80 ?c81 ?c82 ?c83 ?c84 ?c85 ?c86 ?c87 ?c88 ?c89 ?c90 ?c91 ?c92 ?c93 ?c94 ?c95 ?c96 ?c97 ?c98 ?c99 ?c100 ?c101 ?c102 ?c103 ?c104 ?c105 ?c106 ?c107 ?c108 ?c109 ?c110 ?c111 ?c112 ?c113 ?c114 ?c115 ?c116 ?c117 ?c118 ?c119 ?c120 ?c121 ?c122 ?c123 ?c124 ?c125 ?c126 ?c127 ?c128 ?c129 ?c130 ?c131 ?c132 ?c133 ?c134 ?c135 ?c136 ?c137 ?c138 ?c139 ?c140 ?c141 ?c142 ?c143 ?c144 ?c145 ?c146 ?c147 ?c148 ?c149
    (case c123 => k_is); (case c124 => k_is); (case c134 => k_is); (case c0 => k_is); (case c4 => k_is); (case c8 => k_is); (case c12 => k_is); (case c16 => k_is); (case c20 => k_is); (case c24 => k_is); (case c28 => k_is); (case c32 => k_is); (case c36 => k_is); (case c40 => k_is); (case c44 => k_is); (case c48 => k_is); (case c52 => k_is); (case c56 => k_is); (case c60 => k_is); (case c64 => k_is); (case c68 => k_is); (case c72 => k_is); (case c76 => k_is); (case c80 => k_is); (case c84 => k_is); (case c88 => k_is); (case c92 => k_is); (case c96 => k_is); (case c100 => k_is); (case c104 => k_is); (case c1 => k_is); (case c5 => k_is); (case c9 => k_is); (case c13 => k_is); (case c17 => k_is); (case c21 => k_is); (case c25 => k_is); (case c29 => k_is); (case c33 => k_is); (case c37 => k_is); (case c41 => k_is); (case c45 => k_is); (case c49 => k_is); (case c53 => k_is); (case c57 => k_is); (case c61 => k_is); (case c65 => k_is); (case c69 => k_is); (case c73 => k_is); (case c77 => k_is); (case c81 => k_is); (case c85 => k_is); (case c89 => k_is); (case c93 => k_is); (case c97 => k_is); (case c101 => k_is); (case c105 => k_is); (case c2 => k_is); (case c3 => k_is); (case c6 => k_is); (case c7 => k_is); (case c10 => k_is); (case c11 => k_is); (case c14 => k_is); (case c15 => k_is); (case c18 => k_is); (case c19 => k_is); (case c22 => k_is); (case c23 => k_is); (case c26 => k_is); (case c27 => k_is); (case c30 => k_is); (case c31 => k_is); (case c34 => k_is); (case c35 => k_is); (case c38 => k_is); (case c39 => k_is); (case c42 => k_is); (case c43 => k_is); (case c46 => k_is); (case c47 => k_is); (case c50 => k_is); (case c51 => k_is); (case c54 => k_is); (case c55 => k_is); (case c58 => k_is); (case c59 => k_is); (case c62 => k_is); (case c63 => k_is); (case c66 => k_is); (case c67 => k_is); (case c70 => k_is); (case c71 => k_is); (case c74 => k_is); (case c75 => k_is); (case c78 => k_is); (case c79 => k_is); (case c82 => k_is); (case c83 => k_is); (case c86 => k_is); (case c87 => k_is); (case c90 => k_is); (case c91 => k_is); (case c94 => k_is); (case c95 => k_is); (case c98 => k_is); (case c99 => k_is); (case c102 => k_is); (case c103 => k_is); (case c106 => k_is); (case c107 => k_is); (case c108 => k_is); (case c109 => k_is); (case c110 => k_is); (case c111 => k_is); (case c112 => k_is); (case c113 => k_is); (case c114 => k_is); (case c115 => k_is); (case c116 => k_is); (case c117 => k_is); (case c118 => k_is); (case c119 => k_is); (case c120 => k_is); (case c121 => k_is); (case c122 => k_is); (case c125 => k_is); (case c126 => k_exc); (case c127 => k_is); (case c128 => k_is); (case c129 => k_is); (case c130 => k_is); (case c131 => k_is); (case c132 => k_is); (case c133 => k_is); (case c135 => k_is); (case c136 => k_is); (case c137 => k_is); (case c138 => k_is); (case c139 => k_is); (case c140 => first | rfl | decide +kernel); (case c141 => k_is); (case c142 => k_is); (case c143 => k_is); (case c144 => k_is); (case c145 => k_is); (case c146 => k_is); (case c147 => k_is); (case c148 => k_is); (case c149 => k_is)
