import PyProof.Rows.All
import Wide.All
import OpenK.AllK
import Wide.FinOn
import HandS.ForMost
import HandS.ForExc
import HandS.CallSlots
import HandS.TryMany
import HandS.Defaults
import HandS.Wide
import HandS.Flow
import HandS.IsInst
import HandS.ExcIs
import HandS.ExcField
import HandS.HeadHook2
import HandS.Conv
import HandS.TupAny
import KE.KEqNest
import HandS.SortInts
import HandS.TupMul
import KE.KExcSuper
import KE.DataEq
import HandS.NoneIn
import HandS.Dict
import KE.GoesMore
import KE.GoesEnum
import HandS.Head0
import HandS.Head1
import HandS.Head2
import HandS.HeadEnd
import HandS.HeadHook1
import HandS.Ends
import KE.KDictDisplayH
import HandS.TupLen
import HandS.DictComp
import KE.GoesZip
import HandS.SetFor
import HandS.Strs
import HandS.Zip
import HandS.Style
import PySem.Challenge.RW_everyname_k20_whole_operators_of_spans
set_option Elab.async false
set_option linter.all false
set_option maxRecDepth 100000
set_option maxHeartbeats 0
/-! The mirror layer: a def's body is read as a function on plain data (D), with slots that may own a list, and a store of cells. -/
namespace DL
open PySem PySem.Spec L2

/-! ### plain data -/
inductive D where
  | non | bl (b : Bool) | int (i : Int) | str (x : Str) | tup (xs : List D) | lst (xs : List D) | kl (xs : List D) | nod | loc (n : Nat) | ins (c : Str) (fs : List (Str × D)) | kt (xs : List D)

/-- a raised error: its class, its fields -/
structure Exc where
  c : Str
  fs : List (Str × D)
inductive Slot where
  | emp | imm (d : D) | own (ds : List D) | xn (x : Exc)
/-- a cell of the store -/
inductive Ob where
  | dct (kvs : List (Key × D)) | dtt (kvs : List (List Key × D)) | ins (c : Str) (fs : List (Str × D))
structure S where
  sl : List Slot
  st : List Ob
inductive R (α : Type) where
  | ok (a : α) (s : S) | exc (x : Exc) (s : S) | stuck
def bnd {α β : Type} (m : S → R α) (k : α → S → R β) : S → R β := fun s => match m s with
  | .ok a s' => k a s'
  | .exc x s' => .exc x s'
  | .stuck => .stuck
def ret {α : Type} (a : α) : S → R α := fun s => .ok a s
def stk {α : Type} : S → R α := fun _ => .stuck
inductive Fl where
  | nx | bk | ct | rt (d : D)
abbrev ME := S → R D
abbrev MT := S → R Bool
abbrev MA := S → R (List D)
abbrev MS := S → R Fl

/-! ### the ghost: what is frozen, where the cells stand -/
structure Gh where
  F : Hp
  ad : List Addr
structure Gh.le (G G' : Gh) : Prop where
  f : ∀ a o, G.F a = some o → G'.F a = some o
  d : ∀ (n : Nat) a, G.ad[n]? = some a → G'.ad[n]? = some a
theorem Gh.le.refl (G : Gh) : G.le G := ⟨fun _ _ h => h, fun _ _ h => h⟩
theorem Gh.le.trans {A B C : Gh} (x : A.le B) (y : B.le C) : A.le C := ⟨fun a o h => y.f a o (x.f a o h), fun n a h => y.d n a (x.d n a h)⟩

mutual
inductive Rep (K : PySem.W.Frag) (G : Gh) : V → D → Prop
  | non : Rep K G .non .non
  | bl (b : Bool) : Rep K G (.bl b) (.bl b)
  | int (i : Int) : Rep K G (.int i) (.int i)
  | str (x : Str) : Rep K G (.str x) (.str x)
  | tup {a : Addr} {vs : List V} {ds : List D} : G.F a = some (.tup vs) → Reps K G vs ds → Rep K G (.ref a) (.tup ds)
  | lst {a : Addr} {vs : List V} {ds : List D} : G.F a = some (.lst vs) → Reps K G vs ds → Rep K G (.ref a) (.lst ds)
  | kl {a : Addr} {vs : List V} {ds : List D} : SqL K G.F a vs → Reps K G vs ds → Rep K G (.ref a) (.kl ds)
  | kt {a : Addr} {vs : List V} {ds : List D} : SqT K G.F a vs → Reps K G vs ds → Rep K G (.ref a) (.kt ds)
  | nod {a : Addr} : G.F a = some (.dK []) → Rep K G (.ref a) .nod
  | loc {n : Nat} {a : Addr} : G.ad[n]? = some a → Rep K G (.ref a) (.loc n)
  | ins {a dx : Addr} {c : Str} {fvs : List (Str × V)} {fs : List (Str × D)} : G.F a = some (.ins (He.ga K c) dx fvs) → RepF K G fvs fs → Rep K G (.ref a) (.ins c fs)
inductive Reps (K : PySem.W.Frag) (G : Gh) : List V → List D → Prop
  | nil : Reps K G [] []
  | cons {v : V} {vs : List V} {d : D} {ds : List D} : Rep K G v d → Reps K G vs ds → Reps K G (v :: vs) (d :: ds)
inductive RepF (K : PySem.W.Frag) (G : Gh) : List (Str × V) → List (Str × D) → Prop
  | nil : RepF K G [] []
  | cons {f : Str} {v : V} {vs : List (Str × V)} {d : D} {ds : List (Str × D)} : Rep K G v d → RepF K G vs ds → RepF K G ((f, v) :: vs) ((f, d) :: ds)
end

section
variable {K : PySem.W.Frag} {G G' : Gh}
theorem sqT_mono {F F' : Hp} {a : Addr} {xs : List V} (e : ∀ a o, F a = some o → F' a = some o) (h : SqT K F a xs) : SqT K F' a xs := by
  rcases h with (h | ⟨o, h⟩) | h
  · exact .inl (.inl (e _ _ h))
  · exact .inl (.inr ⟨o, e _ _ h⟩)
  · exact .inr h
theorem tqT {F F' : Hp} {a : Addr} {xs : List V} (e : ∀ a o, F a = some o → F' a = some o) (h : F a = some (.tup xs)) : SqT K F' a xs := SqT.of (e _ _ h)
theorem sqL_mono {F F' : Hp} {a : Addr} {xs : List V} (e : ∀ a o, F a = some o → F' a = some o) (h : SqL K F a xs) : SqL K F' a xs := by
  rcases h with (h | ⟨o, h⟩) | h
  · exact .inl (.inl (e _ _ h))
  · exact .inl (.inr ⟨o, e _ _ h⟩)
  · exact .inr h
theorem rd_mono {F F' : Hp} {a : Addr} {u : HO} (e : ∀ a o, F a = some o → F' a = some o) (h : Rd F a u) : Rd F' a u := by
  rcases h with h | ⟨o, h⟩
  · exact .inl (e _ _ h)
  · exact .inr ⟨o, e _ _ h⟩
mutual
theorem Rep.mono (e : G.le G') : ∀ {v : V} {d : D}, Rep K G v d → Rep K G' v d
  | _, _, .non => .non
  | _, _, .bl b => .bl b
  | _, _, .int i => .int i
  | _, _, .str x => .str x
  | _, _, .tup h r => .tup (e.f _ _ h) (Reps.mono e r)
  | _, _, .lst h r => .lst (e.f _ _ h) (Reps.mono e r)
  | _, _, .kl h r => .kl (sqL_mono e.f h) (Reps.mono e r)
  | _, _, .kt h r => .kt (sqT_mono e.f h) (Reps.mono e r)
  | _, _, .nod h => .nod (e.f _ _ h)
  | _, _, .loc h => .loc (e.d _ _ h)
  | _, _, .ins h r => .ins (e.f _ _ h) (RepF.mono e r)
theorem Reps.mono (e : G.le G') : ∀ {v : List V} {d : List D}, Reps K G v d → Reps K G' v d
  | _, _, .nil => .nil
  | _, _, .cons h r => .cons (Rep.mono e h) (Reps.mono e r)
theorem RepF.mono (e : G.le G') : ∀ {v : List (Str × V)} {d : List (Str × D)}, RepF K G v d → RepF K G' v d
  | _, _, .nil => .nil
  | _, _, .cons h r => .cons (Rep.mono e h) (RepF.mono e r)
end
theorem Reps.length : ∀ {vs : List V} {ds : List D}, Reps K G vs ds → vs.length = ds.length
  | _, _, .nil => rfl
  | _, _, .cons _ r => congrArg Nat.succ (Reps.length r)
theorem Reps.get : ∀ {vs : List V} {ds : List D} {i : Nat} {d : D}, Reps K G vs ds → ds[i]? = some d → ∃ v, vs[i]? = some v ∧ Rep K G v d
  | _, _, _, _, .nil, e => by simp at e
  | _, _, 0, _, .cons h _, e => by simp at e; subst e; exact ⟨_, rfl, h⟩
  | _, _, i + 1, d, .cons _ r, e => by
    obtain ⟨v, h1, h2⟩ := Reps.get (i := i) (d := d) r (by simpa using e)
    exact ⟨v, by simpa using h1, h2⟩
theorem Reps.get' : ∀ {vs : List V} {ds : List D} {i : Nat} {v : V}, Reps K G vs ds → vs[i]? = some v → ∃ d, ds[i]? = some d ∧ Rep K G v d
  | _, _, _, _, .nil, e => by simp at e
  | _, _, 0, _, .cons h _, e => by simp at e; subst e; exact ⟨_, rfl, h⟩
  | _, _, i + 1, d, .cons _ r, e => by
    obtain ⟨v, h1, h2⟩ := Reps.get' (i := i) (v := d) r (by simpa using e)
    exact ⟨v, by simpa using h1, h2⟩
theorem Reps.append : ∀ {vs ws : List V} {ds es : List D}, Reps K G vs ds → Reps K G ws es → Reps K G (vs ++ ws) (ds ++ es)
  | _, _, _, _, .nil, s => s
  | _, _, _, _, .cons h r, s => .cons h (Reps.append r s)
theorem Reps.take : ∀ {vs : List V} {ds : List D} (n : Nat), Reps K G vs ds → Reps K G (vs.take n) (ds.take n)
  | _, _, 0, _ => .nil
  | _, _, _ + 1, .nil => .nil
  | _, _, n + 1, .cons h r => .cons h (Reps.take n r)
theorem Reps.drop : ∀ {vs : List V} {ds : List D} (n : Nat), Reps K G vs ds → Reps K G (vs.drop n) (ds.drop n)
  | _, _, 0, r => r
  | _, _, _ + 1, .nil => .nil
  | _, _, n + 1, .cons _ r => Reps.drop n r
theorem Reps.set {v : V} {d : D} (h : Rep K G v d) : ∀ {vs : List V} {ds : List D} (i : Nat), Reps K G vs ds → Reps K G (vs.set i v) (ds.set i d)
  | _, _, _, .nil => .nil
  | _, _, 0, .cons _ r => .cons h r
  | _, _, i + 1, .cons q r => .cons q (Reps.set h i r)
end

/-- an error as it flies -/
def XRep (K : PySem.W.Frag) (G : Gh) (cls : Value) (d : Option Addr) (x : Exc) : Prop := cls = .ref (He.ga K x.c) ∧
  match x.fs with
  | [] => d = none
  | fs => ∃ a fvs, d = some a ∧ G.F a = some (.xd fvs) ∧ RepF K G fvs fs
theorem XRep.mono {K : PySem.W.Frag} {G G' : Gh} {cls : Value} {d : Option Addr} {x : Exc} (e : G.le G') (h : XRep K G cls d x) : XRep K G' cls d x := by
  obtain ⟨h1, h2⟩ := h
  refine ⟨h1, ?_⟩
  cases hx : x.fs with
  | nil => rw [hx] at h2; exact h2
  | cons f fs =>
    rw [hx] at h2
    obtain ⟨a, fvs, q1, q2, q3⟩ := h2
    exact ⟨a, fvs, q1, e.f _ _ q2, q3.mono e⟩

/-! ### from the entry of a def to here -/
structure Le (G : Gh) (H : Hp) (G' : Gh) (H' : Hp) : Prop where
  g : G.le G'
  nw : ∀ a ∈ G'.ad, a ∈ G.ad ∨ H a = none
  fz : ∀ a o, G'.F a = some o → G.F a = some o ∨ H a = none ∨ ∃ vs, o = .tup vs ∧ a ∉ G.ad ∧ ∀ o', H a = some o' → o' = .tup vs
  kp : ∀ a o, H a = some o → a ∉ G.ad → H' a = some o
  dm : ∀ a o, H a = some o → ∃ o', H' a = some o'
theorem Le.refl (G : Gh) (H : Hp) : Le G H G H := ⟨.refl G, fun _ h => .inl h, fun _ _ h => .inl h, fun _ _ h _ => h, fun _ o h => ⟨o, h⟩⟩
theorem Le.free {G G' : Gh} {H H' : Hp} (l : Le G H G' H') {a : Addr} (h : H' a = none) : H a = none := by
  cases q : H a with
  | none => rfl
  | some o =>
    obtain ⟨o', e⟩ := l.dm a o q
    rw [h] at e; cases e
theorem Le.trans {A B C : Gh} {H1 H2 H3 : Hp} (x : Le A H1 B H2) (y : Le B H2 C H3) : Le A H1 C H3 where
  g := x.g.trans y.g
  nw := fun a h => by
    rcases y.nw a h with q | q
    · exact x.nw a q
    · exact .inr (x.free q)
  fz := fun a o h => by
    rcases y.fz a o h with q | q | ⟨vs, e, na, hh⟩
    · exact x.fz a o q
    · exact .inr (.inl (x.free q))
    · have na2 : a ∉ A.ad := fun m => by
        obtain ⟨n, hn⟩ := List.mem_iff_getElem?.mp m
        exact na (List.mem_of_getElem? (x.g.d n a hn))
      exact .inr (.inr ⟨vs, e, na2, fun o1 h1 => hh o1 (x.kp a o1 h1 na2)⟩)
  kp := fun a o h n => y.kp a o (x.kp a o h n) fun q => by
    rcases x.nw a q with z | z
    · exact n z
    · rw [h] at z; cases z
  dm := fun a o h => let ⟨o', e⟩ := x.dm a o h; y.dm a o' e

/-! ### what stands for what -/
def KvRel {κ : Type} (K : PySem.W.Frag) (G : Gh) : List (κ × V) → List (κ × D) → Prop := Paired fun p q => p.1 = q.1 ∧ Rep K G p.2 q.2
theorem KvRel.mono {κ : Type} {K : PySem.W.Frag} {G G' : Gh} (e : G.le G') {a : List (κ × V)} {b : List (κ × D)} (h : KvRel K G a b) : KvRel K G' a b := Paired.mapP h fun _ _ ⟨x, y⟩ => ⟨x, y.mono e⟩
def ObRel (K : PySem.W.Frag) (G : Gh) (H : Hp) (a : Addr) : Ob → Prop
  | .dct kvs => ∃ vs, H a = some (.dK vs) ∧ KvRel K G vs kvs
  | .dtt kvs => ∃ vs, H a = some (.dT vs) ∧ KvRel K G vs kvs
  | .ins c fs => ∃ dx fvs, H a = some (.ins (He.ga K c) dx fvs) ∧ RepF K G fvs fs
theorem ObRel.mono {K : PySem.W.Frag} {G G' : Gh} {H H' : Hp} {a : Addr} {o : Ob} (e : G.le G') (k : ∀ u, H a = some u → H' a = some u) (h : ObRel K G H a o) : ObRel K G' H' a o := by
  cases o with
  | dct kvs => obtain ⟨vs, q, r⟩ := h; exact ⟨vs, k _ q, r.mono e⟩
  | dtt kvs => obtain ⟨vs, q, r⟩ := h; exact ⟨vs, k _ q, r.mono e⟩
  | ins c fs => obtain ⟨dx, vs, q, r⟩ := h; exact ⟨dx, vs, k _ q, r.mono e⟩
theorem ObRel.there {K : PySem.W.Frag} {G : Gh} {H : Hp} {a : Addr} {o : Ob} (h : ObRel K G H a o) : ∃ u, H a = some u := by
  cases o with
  | dct kvs => obtain ⟨vs, q, r⟩ := h; exact ⟨_, q⟩
  | dtt kvs => obtain ⟨vs, q, r⟩ := h; exact ⟨_, q⟩
  | ins c fs => obtain ⟨dx, vs, q, r⟩ := h; exact ⟨_, q⟩
structure StRel (K : PySem.W.Frag) (G : Gh) (H : Hp) (st : List Ob) : Prop where
  len : G.ad.length = st.length
  at_ : ∀ (n : Nat) a o, G.ad[n]? = some a → st[n]? = some o → ObRel K G H a o
  nof : ∀ a ∈ G.ad, G.F a = none
  nd : G.ad.Nodup
theorem StRel.there {K : PySem.W.Frag} {G : Gh} {H : Hp} {st : List Ob} (h : StRel K G H st) {a : Addr} (m : a ∈ G.ad) : ∃ u, H a = some u := by
  obtain ⟨n, hn⟩ := List.mem_iff_getElem?.mp m
  obtain ⟨hl, _⟩ := List.getElem?_eq_some_iff.mp hn
  have hl2 : n < st.length := by rw [← h.len]; exact hl
  exact (h.at_ n a st[n] hn (List.getElem?_eq_getElem hl2)).there

structure SlRel (K : PySem.W.Frag) (pn : List (Addr × Obj)) (H0 : Hp) (G : Gh) (σ : St) (H : Hp) (sl : List Slot) : Prop where
  len : σ.length = sl.length
  imm : ∀ (i : Nat) d, sl[i]? = some (.imm d) → ∃ v, σ[i]? = some (some v) ∧ Rep K G v d
  own : ∀ (i : Nat) ds, sl[i]? = some (.own ds) → ∃ a vs, σ[i]? = some (some (.ref a)) ∧ H a = some (.lst vs) ∧ Reps K G vs ds ∧ G.F a = none ∧ a ∉ G.ad ∧ H0 a = none
  dis : ∀ (i j : Nat) ds es a, sl[i]? = some (.own ds) → sl[j]? = some (.own es) → σ[i]? = some (some (.ref a)) → σ[j]? = some (some (.ref a)) → i = j
  xn : ∀ (i : Nat) x, sl[i]? = some (.xn x) → ∃ a oe tl cls d, pn = (a, oe) :: tl ∧ σ[i]? = some (some (.ref a)) ∧ Zc cls d oe ∧ XRep K G cls d x

structure Wd where
  G0 : Gh
  H0 : Hp
  G : Gh
  σ : St
  H : Hp
  s : S
  /-- objects under way that nobody else holds (a comprehension's list) -/
  pr : List (Addr × HO) := []
/-- what a thing under way keeps -/
def isT : HO → Bool
  | .tup _ => true
  | _ => false
def PrOk (w : Wd) : Prop := ∀ q ∈ w.pr, w.H q.1 = some q.2 ∧ w.G.F q.1 = none ∧ (q.1 ∉ w.G.ad ∧ isT q.2 = false) ∧ w.H0 q.1 = none ∧ ∀ (i : Nat) es, w.s.sl[i]? = some (.own es) → w.σ[i]? ≠ some (some (.ref q.1))
structure Rel (K : PySem.W.Frag) (pn : List (Addr × Obj)) (w : Wd) : Prop where
  ex : ∀ a o, w.G.F a = some o → w.H a = some o
  le : Le w.G0 w.H0 w.G w.H
  st : StRel K w.G w.H w.s.st
  sl : SlRel K pn w.H0 w.G w.σ w.H w.s.sl
  pr : PrOk w

/-! ### readings -/
section
variable {α β γ δ : Type}
/-- what is wished of a mirror's end -/
def okG (K : PySem.W.Frag) (pn : List (Addr × Obj)) (W : WX) (A : Wd → β → α → Prop) (w : Wd) (Q : β → Hp → Prop) : R α → Prop
  | .ok a s' => ∀ G' b H', w.G.le G' → Rel K pn { w with G := G', H := H', s := s' } → A { w with G := G', H := H', s := s' } b a → Q b H'
  | .exc x s' => ∀ G' c d H', w.G.le G' → Rel K pn { w with G := G', H := H', s := s' } → XRep K G' c d x → W c d w.σ H'
  | .stuck => False
def tG (K : PySem.W.Frag) (pn : List (Addr × Obj)) (W : WX) (A : Wd → β → α → Prop) (m : S → R α) : St → Hp → (β → Hp → Prop) → Prop := fun σ H Q => ∃ w : Wd, w.σ = σ ∧ w.H = H ∧ Rel K pn w ∧ okG K pn W A w Q (m w.s)
abbrev AR (K : PySem.W.Frag) : Wd → V → D → Prop := fun w v d => Rep K w.G v d
abbrev ARs (K : PySem.W.Frag) : Wd → List V → List D → Prop := fun w v d => Reps K w.G v d
abbrev AB : Wd → Bool → Bool → Prop := fun _ b c => b = c
abbrev AU : Wd → Unit → Unit → Prop := fun _ _ _ => True
/-- a new list that nobody else holds -/
def AF (K : PySem.W.Frag) : Wd → V → List D → Prop := fun w v ds => ∃ a vs, v = .ref a ∧ w.H a = some (.lst vs) ∧ Reps K w.G vs ds ∧ w.G.F a = none ∧ a ∉ w.G.ad ∧ w.H0 a = none ∧
  (∀ (i : Nat) es, w.s.sl[i]? = some (.own es) → w.σ[i]? ≠ some (some (.ref a))) ∧ ∀ q ∈ w.pr, q.1 ≠ a
variable {K : PySem.W.Frag} {pn : List (Addr × Obj)} {W : WX}
theorem okG.up {A : Wd → β → α → Prop} {w : Wd} {Q : β → Hp → Prop} {r : R α} (h : okG K pn W A w Q r) {G' : Gh} {H' : Hp} {s' : S} (e : w.G.le G') : okG K pn W A { w with G := G', H := H', s := s' } Q r := by
  cases r with
  | ok a s2 => exact fun G2 b H2 e2 r2 a2 => h G2 b H2 (e.trans e2) r2 a2
  | exc x s2 => exact fun G2 c d H2 e2 r2 a2 => h G2 c d H2 (e.trans e2) r2 a2
  | stuck => exact h
theorem okG.mono {A : Wd → β → α → Prop} {w : Wd} {Q Q' : β → Hp → Prop} {r : R α} (h : okG K pn W A w Q r) (hq : ∀ b H', Q b H' → Q' b H') : okG K pn W A w Q' r := by
  cases r with
  | ok a s2 => exact fun G2 b H2 e2 r2 a2 => hq _ _ (h G2 b H2 e2 r2 a2)
  | exc x s2 => exact h
  | stuck => exact h
/-- THE STEP: m first, then k -/
theorem run {A : Wd → β → α → Prop} {B : Wd → δ → γ → Prop} {m : S → R α} {k : α → S → R γ} {w : Wd} {Q : δ → Hp → Prop} {Q1 : β → Hp → Prop} (r : Rel K pn w) (h : okG K pn W B w Q (bnd m k w.s))
    (hk : ∀ a s' G' b H', w.G.le G' → Rel K pn { w with G := G', H := H', s := s' } → A { w with G := G', H := H', s := s' } b a → okG K pn W B { w with G := G', H := H', s := s' } Q (k a s') → Q1 b H') : tG K pn W A m w.σ w.H Q1 := by
  refine ⟨w, rfl, rfl, r, ?_⟩
  unfold bnd at h
  cases hm : m w.s with
  | ok a s' =>
    rw [hm] at h
    intro G' b H' e r' ha
    exact hk a s' G' b H' e r' ha (h.up e)
  | exc x s' =>
    rw [hm] at h
    exact h
  | stuck =>
    rw [hm] at h
    exact h
theorem fin {B : Wd → δ → γ → Prop} {w : Wd} {Q : δ → Hp → Prop} {c : γ} {d : δ} (r : Rel K pn w) (h : okG K pn W B w Q (.ok c w.s)) (hb : B w d c) : Q d w.H := h w.G d w.H (.refl _) r hb
end

/-! ### judgements -/
def JE (X : Cx) (W : WX) (e : Expr) (m : ME) : Prop := PE X e (tG X.K X.pn W (AR X.K) m)
def JF (X : Cx) (W : WX) (e : Expr) (m : MA) : Prop := PE X e (tG X.K X.pn W (AF X.K) m)
structure JA (X : Cx) (W : WX) (es : List Expr) (m : MA) : Prop where
  pa : PA X es (tG X.K X.pn W (ARs X.K) m)
  len : ∀ s as s', m s = .ok as s' → as.length = es.length
def JT (X : Cx) (W : WX) (e : Expr) (m : MT) : Prop := PT X e (tG X.K X.pn W AB m)
/-- a test inside and, or -/
def JW (X : Cx) (W : WX) (e : Expr) (m : MT) : Prop := PW X e (tG X.K X.pn W AB m)
def okS (K : PySem.W.Frag) (pn : List (Addr × Obj)) (W : WX) (w : Wd) (D : Ends) : R Fl → Prop
  | .ok fl s' => ∀ G' σ' H', w.G.le G' → Rel K pn { w with G := G', σ := σ', H := H', s := s' } → match fl with
    | .nx => D.nx σ' H'
    | .bk => D.bk σ' H'
    | .ct => D.ct σ' H'
    | .rt d => ∀ v, Rep K G' v d → D.rt v H'
  | .exc x s' => ∀ G' σ' c d H', w.G.le G' → Rel K pn { w with G := G', σ := σ', H := H', s := s' } → XRep K G' c d x → W c d σ' H'
  | .stuck => False
def tS (K : PySem.W.Frag) (pn : List (Addr × Obj)) (W : WX) (m : MS) : TS := fun D σ H => ∃ w : Wd, w.σ = σ ∧ w.H = H ∧ Rel K pn w ∧ okS K pn W w D (m w.s)
def JS (X : Cx) (W : WX) (st : Stmt) (m : MS) : Prop := PS X st (tS X.K X.pn W m)
def JSs (X : Cx) (W : WX) (st : List Stmt) (m : MS) : Prop := PSs X st (tS X.K X.pn W m)

theorem PE.imp {X : Cx} {e : Expr} {t t' : TE} (h : PE X e t) (i : ∀ σ H Q, t' σ H Q → t σ H Q) : PE X e t' := ⟨fun pins s σ H Q I q => h.run pins s σ H Q I (i _ _ _ q)⟩
theorem PA.imp {X : Cx} {e : List Expr} {t t' : TA} (h : PA X e t) (i : ∀ σ H Q, t' σ H Q → t σ H Q) : PA X e t' := ⟨fun pos pins s σ H Q I q => h.run pos pins s σ H Q I (i _ _ _ q)⟩
theorem PT.imp {X : Cx} {e : Expr} {t t' : TT} (h : PT X e t) (i : ∀ σ H Q, t' σ H Q → t σ H Q) : PT X e t' := ⟨fun pins s σ H Q I q => h.run pins s σ H Q I (i _ _ _ q)⟩
theorem PW.imp {X : Cx} {e : Expr} {t t' : TT} (h : PW X e t) (i : ∀ σ H Q, t' σ H Q → t σ H Q) : PW X e t' := ⟨fun wh pins s σ H Q I q => h.run wh pins s σ H Q I (i _ _ _ q)⟩
theorem PS.imp {X : Cx} {e : Stmt} {t t' : TS} (h : PS X e t) (i : ∀ D σ H, t' D σ H → t D σ H) : PS X e t' := ⟨fun pins s σ H D I q => h.run pins s σ H D I (i _ _ _ q)⟩
theorem PSs.imp {X : Cx} {e : List Stmt} {t t' : TS} (h : PSs X e t) (i : ∀ D σ H, t' D σ H → t D σ H) : PSs X e t' := ⟨fun pins s σ H D I q => h.run pins s σ H D I (i _ _ _ q)⟩
end DL

namespace DL
open PySem PySem.Spec L2

/-! ### how the heap moves -/
section
variable {K : PySem.W.Frag} {pn : List (Addr × Obj)} {w : Wd}
theorem upd_none {H : Hp} {p a : Addr} {o : HO} (h : upd H p o a = none) : a ≠ p ∧ H a = none := by
  by_cases e : a = p
  · subst e; rw [upd_same] at h; cases h
  · rw [upd_ne e] at h; exact ⟨e, h⟩
theorem upd_get {H : Hp} {p a : Addr} {o u : HO} (h : upd H p o a = some u) : (a = p ∧ u = o) ∨ (a ≠ p ∧ H a = some u) := by
  by_cases e : a = p
  · subst e; rw [upd_same] at h; cases h; exact .inl ⟨rfl, rfl⟩
  · rw [upd_ne e] at h; exact .inr ⟨e, h⟩
/-- an object that is not there yet is laid -/
theorem Rel.alloc (r : Rel K pn w) {p : Addr} {o : HO} (hp : w.H p = none) : Rel K pn { w with H := upd w.H p o } := by
  have up : ∀ a u, w.H a = some u → upd w.H p o a = some u := fun a u h => by rw [upd_ne (ne_of_none h hp)]; exact h
  refine ⟨fun a u h => up a u (r.ex a u h), ⟨r.le.g, r.le.nw, r.le.fz, fun a u h n => up a u (r.le.kp a u h n), fun a u h => ?_⟩, ⟨r.st.len, fun n a u h1 h2 => (r.st.at_ n a u h1 h2).mono (.refl _) (up a), r.st.nof, r.st.nd⟩, ⟨r.sl.len, r.sl.imm, fun i ds h => ?_, r.sl.dis, r.sl.xn⟩, fun q hq => ?_⟩
  · obtain ⟨u', h'⟩ := r.le.dm a u h
    exact ⟨u', up a u' h'⟩
  · obtain ⟨a, vs, h1, h2, h3⟩ := r.sl.own i ds h
    exact ⟨a, vs, h1, up a _ h2, h3⟩
  · obtain ⟨h1, h2⟩ := r.pr q hq
    exact ⟨up _ _ h1, h2⟩
theorem gle_upd {G : Gh} {p : Addr} {o : HO} (hp : G.F p = none) : G.le { G with F := upd G.F p o } := ⟨fun a u h => by show upd G.F p o a = some u; rw [upd_ne (ne_of_none h hp)]; exact h, fun _ _ h => h⟩
/-- what nobody changes any more is frozen -/
theorem Rel.freeze (r : Rel K pn w) {p : Addr} {o : HO} (hp : w.H p = some o) (hf : w.G.F p = none) (ha : p ∉ w.G.ad) (h0 : w.H0 p = none) (hs : ∀ (i : Nat) es, w.s.sl[i]? = some (.own es) → w.σ[i]? ≠ some (some (.ref p))) (hpr : ∀ q ∈ w.pr, q.1 ≠ p) :
    Rel K pn { w with G := { w.G with F := upd w.G.F p o } } := by
  have g := gle_upd (o := o) hf
  refine ⟨fun a u h => ?_, ⟨r.le.g.trans g, r.le.nw, fun a u h => ?_, r.le.kp, r.le.dm⟩, ⟨r.st.len, fun n a u h1 h2 => (r.st.at_ n a u h1 h2).mono g fun _ q => q, fun a h => ?_, r.st.nd⟩, ⟨r.sl.len, fun i d h => ?_, fun i ds h => ?_, r.sl.dis, fun i x h => ?_⟩, fun q hq => ?_⟩
  · rcases upd_get h with ⟨e, z⟩ | ⟨e, z⟩
    · rw [e, z]; exact hp
    · exact r.ex a u z
  · rcases upd_get h with ⟨e, z⟩ | ⟨e, z⟩
    · rw [e]; exact .inr (.inl h0)
    · exact r.le.fz a u z
  · exact (upd_ne (show a ≠ p from fun e => ha (e ▸ h))).trans (r.st.nof a h)
  · obtain ⟨v, h1, h2⟩ := r.sl.imm i d h
    exact ⟨v, h1, h2.mono g⟩
  · obtain ⟨a, vs, h1, h2, h3, h4, h5⟩ := r.sl.own i ds h
    refine ⟨a, vs, h1, h2, h3.mono g, ?_, h5⟩
    exact (upd_ne (show a ≠ p from fun e => hs i ds h (e ▸ h1))).trans h4
  · obtain ⟨a, oe, tl, cls, d, h1, h2, h3, h4⟩ := r.sl.xn i x h
    exact ⟨a, oe, tl, cls, d, h1, h2, h3, h4.mono g⟩
  · obtain ⟨h1, h2, h3⟩ := r.pr q hq
    exact ⟨h1, (upd_ne (hpr q hq)).trans h2, h3⟩
theorem Rel.noF (r : Rel K pn w) {p : Addr} (hp : w.H p = none) : w.G.F p = none := by
  cases q : w.G.F p with
  | none => rfl
  | some o => rw [r.ex p o q] at hp; cases hp
theorem Rel.noA (r : Rel K pn w) {p : Addr} (hp : w.H p = none) : p ∉ w.G.ad := fun h => by
  obtain ⟨u, hu⟩ := r.st.there h
  rw [hp] at hu; cases hu
theorem Rel.no0 (r : Rel K pn w) {p : Addr} (hp : w.H p = none) : w.H0 p = none := r.le.free hp
theorem Rel.noS (r : Rel K pn w) {p : Addr} (hp : w.H p = none) (i : Nat) (es : List D) (h : w.s.sl[i]? = some (.own es)) : w.σ[i]? ≠ some (some (.ref p)) := fun q => by
  obtain ⟨a, vs, h1, h2, _⟩ := r.sl.own i es h
  rw [q] at h1
  cases h1
  rw [hp] at h2; cases h2
theorem Rel.noP (r : Rel K pn w) {p : Addr} (hp : w.H p = none) : ∀ q ∈ w.pr, q.1 ≠ p := fun q hq e => by
  have := (r.pr q hq).1
  rw [e, hp] at this; cases this
/-- a new object, frozen at once -/
theorem Rel.new (r : Rel K pn w) {p : Addr} {o : HO} (hp : w.H p = none) : Rel K pn { w with G := { w.G with F := upd w.G.F p o }, H := upd w.H p o } :=
  Rel.freeze (w := { w with H := upd w.H p o }) (r.alloc hp) upd_same (r.noF hp) (r.noA hp) (r.no0 hp) (r.noS hp) (r.noP hp)
/-- a new list of one's own -/
theorem AF.new (r : Rel K pn w) {p : Addr} {vs : List V} {ds : List D} (hp : w.H p = none) (h : Reps K w.G vs ds) : AF K { w with H := upd w.H p (.lst vs) } (.ref p) ds :=
  ⟨p, vs, rfl, upd_same, h, r.noF hp, r.noA hp, r.no0 hp, r.noS hp, r.noP hp⟩
/-- .. frozen -/
theorem AF.rep (r : Rel K pn w) {v : V} {ds : List D} (h : AF K w v ds) : ∃ G', w.G.le G' ∧ Rel K pn { w with G := G' } ∧ Rep K G' v (.lst ds) := by
  obtain ⟨a, vs, rfl, h1, h2, h3, h4, h5, h6, h7⟩ := h
  exact ⟨_, gle_upd h3, r.freeze h1 h3 h4 h5 h6 h7, .lst upd_same (h2.mono (gle_upd h3))⟩
/-- the extension of the ghost keeps all relations between values -/
theorem Rel.len (r : Rel K pn w) : w.σ.length = w.s.sl.length := r.sl.len

/-! slots -/
def S.put (s : S) (i : Nat) (x : Slot) : S := { s with sl := s.sl.set i x }
theorem set_get {α : Type} {l : List α} {i j : Nat} {x y : α} (h : (l.set i x)[j]? = some y) : (j = i ∧ y = x) ∨ (j ≠ i ∧ l[j]? = some y) := by
  by_cases e : j = i
  · subst e
    by_cases hl : j < l.length
    · rw [List.getElem?_set_self hl] at h; cases h; exact .inl ⟨rfl, rfl⟩
    · rw [List.getElem?_eq_none (by simpa using hl)] at h; cases h
  · rw [List.getElem?_set_ne (Ne.symm e)] at h; exact .inr ⟨e, h⟩
theorem set_lt {α : Type} {l : List α} {i j : Nat} {x y : α} (h : (l.set i x)[j]? = some y) : j < l.length := by
  have := (List.getElem?_eq_some_iff.mp h).1
  simpa using this
/-- slot i is given a value -/
theorem Rel.set (r : Rel K pn w) {i : Nat} {v : V} {d : D} (h : Rep K w.G v d) : Rel K pn { w with σ := w.σ.set i (some v), s := w.s.put i (.imm d) } := by
  refine ⟨r.ex, r.le, r.st, ⟨by show (w.σ.set i (some v)).length = (w.s.sl.set i (.imm d)).length; rw [List.length_set, List.length_set]; exact r.sl.len, fun j e q => ?_, fun j ds q => ?_, fun j k ds es a q1 q2 q3 q4 => ?_, fun j x q => ?_⟩, fun q hq => ?_⟩
  · have hl : j < w.σ.length := by rw [r.sl.len]; exact set_lt q
    rcases set_get q with ⟨e1, e2⟩ | ⟨e1, e2⟩
    · subst e1; cases e2
      exact ⟨v, List.getElem?_set_self hl, h⟩
    · obtain ⟨u, h1, h2⟩ := r.sl.imm j e e2
      exact ⟨u, by show (w.σ.set i (some v))[j]? = _; rw [List.getElem?_set_ne (Ne.symm e1)]; exact h1, h2⟩
  · rcases set_get q with ⟨e1, e2⟩ | ⟨e1, e2⟩
    · cases e2
    · obtain ⟨a, vs, h1, h2⟩ := r.sl.own j ds e2
      exact ⟨a, vs, by show (w.σ.set i (some v))[j]? = _; rw [List.getElem?_set_ne (Ne.symm e1)]; exact h1, h2⟩
  · rcases set_get q1 with ⟨e1, e2⟩ | ⟨e1, e2⟩
    · cases e2
    · rcases set_get q2 with ⟨e3, e4⟩ | ⟨e3, e4⟩
      · cases e4
      · have z1 : w.σ[j]? = some (some (.ref a)) := by rw [← q3]; exact (List.getElem?_set_ne (Ne.symm e1)).symm
        have z2 : w.σ[k]? = some (some (.ref a)) := by rw [← q4]; exact (List.getElem?_set_ne (Ne.symm e3)).symm
        exact r.sl.dis j k ds es a e2 e4 z1 z2
  · rcases set_get q with ⟨e1, e2⟩ | ⟨e1, e2⟩
    · cases e2
    · obtain ⟨a, oe, tl, cls, d, h1, h2, h3⟩ := r.sl.xn j x e2
      exact ⟨a, oe, tl, cls, d, h1, by show (w.σ.set i (some v))[j]? = _; rw [List.getElem?_set_ne (Ne.symm e1)]; exact h2, h3⟩
  · obtain ⟨p1, p2, p3, p4, p5⟩ := r.pr q hq
    refine ⟨p1, p2, p3, p4, fun j es h1 h2 => ?_⟩
    rcases set_get h1 with ⟨e1, e2⟩ | ⟨e1, e2⟩
    · cases e2
    · exact p5 j es e2 ((List.getElem?_set_ne (Ne.symm e1)).symm.trans h2)
/-- slot i is forgotten -/
theorem Rel.clr (r : Rel K pn w) {i : Nat} {v : Option V} : Rel K pn { w with σ := w.σ.set i v, s := w.s.put i .emp } := by
  refine ⟨r.ex, r.le, r.st, ⟨by show (w.σ.set i v).length = (w.s.sl.set i .emp).length; rw [List.length_set, List.length_set]; exact r.sl.len, fun j e q => ?_, fun j ds q => ?_, fun j k ds es a q1 q2 q3 q4 => ?_, fun j x q => ?_⟩, fun q hq => ?_⟩
  · rcases set_get q with ⟨e1, e2⟩ | ⟨e1, e2⟩
    · cases e2
    · obtain ⟨u, h1, h2⟩ := r.sl.imm j e e2
      exact ⟨u, by show (w.σ.set i v)[j]? = _; rw [List.getElem?_set_ne (Ne.symm e1)]; exact h1, h2⟩
  · rcases set_get q with ⟨e1, e2⟩ | ⟨e1, e2⟩
    · cases e2
    · obtain ⟨a, vs, h1, h2⟩ := r.sl.own j ds e2
      exact ⟨a, vs, by show (w.σ.set i v)[j]? = _; rw [List.getElem?_set_ne (Ne.symm e1)]; exact h1, h2⟩
  · rcases set_get q1 with ⟨e1, e2⟩ | ⟨e1, e2⟩
    · cases e2
    · rcases set_get q2 with ⟨e3, e4⟩ | ⟨e3, e4⟩
      · cases e4
      · have z1 : w.σ[j]? = some (some (.ref a)) := by rw [← q3]; exact (List.getElem?_set_ne (Ne.symm e1)).symm
        have z2 : w.σ[k]? = some (some (.ref a)) := by rw [← q4]; exact (List.getElem?_set_ne (Ne.symm e3)).symm
        exact r.sl.dis j k ds es a e2 e4 z1 z2
  · rcases set_get q with ⟨e1, e2⟩ | ⟨e1, e2⟩
    · cases e2
    · obtain ⟨a, oe, tl, cls, d, h1, h2, h3⟩ := r.sl.xn j x e2
      exact ⟨a, oe, tl, cls, d, h1, by show (w.σ.set i v)[j]? = _; rw [List.getElem?_set_ne (Ne.symm e1)]; exact h2, h3⟩
  · obtain ⟨p1, p2, p3, p4, p5⟩ := r.pr q hq
    refine ⟨p1, p2, p3, p4, fun j es h1 h2 => ?_⟩
    rcases set_get h1 with ⟨e1, e2⟩ | ⟨e1, e2⟩
    · cases e2
    · exact p5 j es e2 ((List.getElem?_set_ne (Ne.symm e1)).symm.trans h2)
/-- slot i is given a new list of its own -/
theorem Rel.setOwn (r : Rel K pn w) {i : Nat} {v : V} {ds : List D} (h : AF K w v ds) : Rel K pn { w with σ := w.σ.set i (some v), s := w.s.put i (.own ds) } := by
  obtain ⟨a, vs, rfl, h1, h2, h3, h4, h5, h6, h7⟩ := h
  refine ⟨r.ex, r.le, r.st, ⟨by show (w.σ.set i (some (.ref a))).length = (w.s.sl.set i (.own ds)).length; rw [List.length_set, List.length_set]; exact r.sl.len, fun j e q => ?_, fun j es q => ?_, fun j k es fs b q1 q2 q3 q4 => ?_, fun j x q => ?_⟩, fun q hq => ?_⟩
  · rcases set_get q with ⟨e1, e2⟩ | ⟨e1, e2⟩
    · cases e2
    · obtain ⟨u, z1, z2⟩ := r.sl.imm j e e2
      exact ⟨u, by show (w.σ.set i _)[j]? = _; rw [List.getElem?_set_ne (Ne.symm e1)]; exact z1, z2⟩
  · have hl : j < w.σ.length := by rw [r.sl.len]; exact set_lt q
    rcases set_get q with ⟨e1, e2⟩ | ⟨e1, e2⟩
    · subst e1; cases e2
      exact ⟨a, vs, List.getElem?_set_self hl, h1, h2, h3, h4, h5⟩
    · obtain ⟨b, us, z1, z2⟩ := r.sl.own j es e2
      exact ⟨b, us, by show (w.σ.set i _)[j]? = _; rw [List.getElem?_set_ne (Ne.symm e1)]; exact z1, z2⟩
  · have hj : j < w.σ.length := by rw [r.sl.len]; exact set_lt q1
    have hk : k < w.σ.length := by rw [r.sl.len]; exact set_lt q2
    have g1 : (w.σ.set i (some (V.ref a)))[j]? = some (some (.ref b)) := q3
    have g2 : (w.σ.set i (some (V.ref a)))[k]? = some (some (.ref b)) := q4
    rcases set_get q1 with ⟨e1, e2⟩ | ⟨e1, e2⟩
    · subst e1
      rcases set_get q2 with ⟨e3, e4⟩ | ⟨e3, e4⟩
      · exact e3.symm
      · rw [List.getElem?_set_self hj] at g1; cases g1
        rw [List.getElem?_set_ne (Ne.symm e3)] at g2
        exact absurd g2 (h6 k fs e4)
    · rw [List.getElem?_set_ne (Ne.symm e1)] at g1
      rcases set_get q2 with ⟨e3, e4⟩ | ⟨e3, e4⟩
      · subst e3
        rw [List.getElem?_set_self hk] at g2; cases g2
        exact absurd g1 (h6 j es e2)
      · rw [List.getElem?_set_ne (Ne.symm e3)] at g2
        exact r.sl.dis j k es fs b e2 e4 g1 g2
  · rcases set_get q with ⟨e1, e2⟩ | ⟨e1, e2⟩
    · cases e2
    · obtain ⟨b, oe, tl, cls, d, z1, z2, z3⟩ := r.sl.xn j x e2
      exact ⟨b, oe, tl, cls, d, z1, by show (w.σ.set i _)[j]? = _; rw [List.getElem?_set_ne (Ne.symm e1)]; exact z2, z3⟩
  · obtain ⟨p1, p2, p3, p4, p5⟩ := r.pr q hq
    refine ⟨p1, p2, p3, p4, fun j es z1 z2 => ?_⟩
    have z2 : (w.σ.set i (some (V.ref a)))[j]? = some (some (.ref q.1)) := z2
    have hj : j < w.σ.length := by rw [r.sl.len]; exact set_lt z1
    rcases set_get z1 with ⟨e1, e2⟩ | ⟨e1, e2⟩
    · subst e1
      rw [List.getElem?_set_self hj] at z2
      cases z2
      exact h7 q hq rfl
    · rw [List.getElem?_set_ne (Ne.symm e1)] at z2
      exact p5 j es e2 z2
/-- the list that slot i owns changes -/
theorem Rel.mut (r : Rel K pn w) {i : Nat} {a : Addr} {es ds : List D} {vs : List V} (hi : w.s.sl[i]? = some (.own es)) (ha : w.σ[i]? = some (some (.ref a))) (h : Reps K w.G vs ds) : Rel K pn { w with H := upd w.H a (.lst vs), s := w.s.put i (.own ds) } := by
  obtain ⟨b, us, z1, z2, z3, z4, z5, z6⟩ := r.sl.own i es hi
  rw [ha] at z1
  cases z1
  have hil : i < w.s.sl.length := (List.getElem?_eq_some_iff.mp hi).1
  refine ⟨fun c u q => ?_, ⟨r.le.g, r.le.nw, r.le.fz, fun c u q n => ?_, fun c u q => ?_⟩, ⟨r.st.len, fun n c u q1 q2 => (r.st.at_ n c u q1 q2).mono (.refl _) fun x q => ?_, r.st.nof, r.st.nd⟩, ⟨by show w.σ.length = (w.s.sl.set i (.own ds)).length; rw [List.length_set]; exact r.sl.len, fun j e q => ?_, fun j fs q => ?_, fun j k fs gs c q1 q2 q3 q4 => ?_, fun j x q => ?_⟩, fun q hq => ?_⟩
  · have q : w.G.F c = some u := q
    exact (upd_ne (show c ≠ a from fun e => by rw [e, z4] at q; cases q)).trans (r.ex c u q)
  · have q : w.H0 c = some u := q
    exact (upd_ne (show c ≠ a from fun e => by rw [e, z6] at q; cases q)).trans (r.le.kp c u q n)
  · obtain ⟨u', q'⟩ := r.le.dm c u q
    by_cases e : c = a
    · exact ⟨.lst vs, by subst e; exact upd_same⟩
    · exact ⟨u', (upd_ne e).trans q'⟩
  · have m : c ∈ w.G.ad := List.mem_of_getElem? q1
    exact (upd_ne (show c ≠ a from fun e => z5 (e ▸ m))).trans q
  · rcases set_get q with ⟨e1, e2⟩ | ⟨e1, e2⟩
    · cases e2
    · exact r.sl.imm j e e2
  · rcases set_get q with ⟨e1, e2⟩ | ⟨e1, e2⟩
    · subst e1; cases e2
      exact ⟨a, vs, ha, upd_same, h, z4, z5, z6⟩
    · obtain ⟨c, ws, y1, y2, y3⟩ := r.sl.own j fs e2
      refine ⟨c, ws, y1, ?_, y3⟩
      exact (upd_ne (show c ≠ a from fun e => e1 (r.sl.dis j i fs es a e2 hi (e ▸ y1) ha))).trans y2
  · rcases set_get q1 with ⟨e1, e2⟩ | ⟨e1, e2⟩
    · subst e1
      rcases set_get q2 with ⟨e3, e4⟩ | ⟨e3, e4⟩
      · exact e3.symm
      · exact r.sl.dis j k es gs c hi e4 q3 q4
    · rcases set_get q2 with ⟨e3, e4⟩ | ⟨e3, e4⟩
      · subst e3
        exact r.sl.dis j k fs es c e2 hi q3 q4
      · exact r.sl.dis j k fs gs c e2 e4 q3 q4
  · rcases set_get q with ⟨e1, e2⟩ | ⟨e1, e2⟩
    · cases e2
    · exact r.sl.xn j x e2
  · obtain ⟨p1, p2, p3, p4, p5⟩ := r.pr q hq
    have nq : q.1 ≠ a := fun e => p5 i es hi (e ▸ ha)
    refine ⟨(upd_ne nq).trans p1, p2, p3, p4, fun j fs h1 h2 => ?_⟩
    rcases set_get h1 with ⟨e1, e2⟩ | ⟨e1, e2⟩
    · subst e1; exact p5 j es hi h2
    · exact p5 j fs e2 h2
/-- the list that slot i owns is frozen -/
theorem Rel.froz (r : Rel K pn w) {i : Nat} {es : List D} (hi : w.s.sl[i]? = some (.own es)) : ∃ G' v, w.G.le G' ∧ w.σ[i]? = some (some v) ∧ Rep K G' v (.lst es) ∧ Rel K pn { w with G := G', s := w.s.put i (.imm (.lst es)) } := by
  obtain ⟨a, vs, z1, z2, z3, z4, z5, z6⟩ := r.sl.own i es hi
  have hil : i < w.s.sl.length := (List.getElem?_eq_some_iff.mp hi).1
  have g := gle_upd (o := .lst vs) z4
  have rp : Rep K { w.G with F := upd w.G.F a (.lst vs) } (.ref a) (.lst es) := .lst upd_same (z3.mono g)
  -- first forget the slot, then freeze
  have r1 : Rel K pn { w with s := w.s.put i .emp } := by
    have q := r.clr (i := i) (v := some (.ref a))
    have e : w.σ.set i (some (.ref a)) = w.σ := by
      apply List.ext_getElem?
      intro n
      by_cases hn : n = i
      · subst hn; rw [z1]; exact List.getElem?_set_self (List.getElem?_eq_some_iff.mp z1).1
      · exact List.getElem?_set_ne (Ne.symm hn)
    rw [e] at q
    exact q
  have r2 := Rel.freeze (w := { w with s := w.s.put i .emp }) r1 z2 z4 z5 z6 (fun j fs q1 q2 => by
    rcases set_get q1 with ⟨e1, e2⟩ | ⟨e1, e2⟩
    · cases e2
    · exact e1 (r.sl.dis j i fs es a e2 hi q2 z1)) (fun q hq e => (r.pr q hq).2.2.2.2 i es hi (e ▸ z1))
  have r3 := Rel.set (i := i) r2 rp
  refine ⟨_, .ref a, g, z1, rp, ?_⟩
  have e : w.σ.set i (some (.ref a)) = w.σ := by
    apply List.ext_getElem?
    intro n
    by_cases hn : n = i
    · subst hn; rw [z1]; exact List.getElem?_set_self (List.getElem?_eq_some_iff.mp z1).1
    · exact List.getElem?_set_ne (Ne.symm hn)
  have e2 : (w.s.put i .emp).put i (.imm (.lst es)) = w.s.put i (.imm (.lst es)) := by unfold S.put; simp
  simp only [e, e2] at r3
  exact r3
/-- a cell of the store changes -/
theorem Rel.cell (r : Rel K pn w) {n : Nat} {a : Addr} {o : Ob} {u : HO} (ha : w.G.ad[n]? = some a) (ho : ∀ H', H' a = some u → ObRel K w.G H' a o) : Rel K pn { w with H := upd w.H a u, s := { w.s with st := w.s.st.set n o } } := by
  have m : a ∈ w.G.ad := List.mem_of_getElem? ha
  have hF := r.st.nof a m
  refine ⟨fun c x q => ?_, ⟨r.le.g, r.le.nw, r.le.fz, fun c x q k => ?_, fun c x q => ?_⟩, ⟨by show w.G.ad.length = (w.s.st.set n o).length; rw [List.length_set]; exact r.st.len, fun j c x q1 q2 => ?_, r.st.nof, r.st.nd⟩, ⟨r.sl.len, r.sl.imm, fun i ds q => ?_, r.sl.dis, r.sl.xn⟩, fun q hq => ?_⟩
  · have q : w.G.F c = some x := q
    exact (upd_ne (show c ≠ a from fun e => by rw [e, hF] at q; cases q)).trans (r.ex c x q)
  · have q : w.H0 c = some x := q
    have nc : c ≠ a := fun e => by
      rcases r.le.nw a m with z | z
      · exact k (e ▸ z)
      · rw [e, z] at q; cases q
    exact (upd_ne nc).trans (r.le.kp c x q k)
  · obtain ⟨u', q'⟩ := r.le.dm c x q
    by_cases e : c = a
    · exact ⟨u, by subst e; exact upd_same⟩
    · exact ⟨u', (upd_ne e).trans q'⟩
  · rcases set_get q2 with ⟨e1, e2⟩ | ⟨e1, e2⟩
    · subst e1; subst e2
      have z1 : w.G.ad[j]? = some c := q1
      rw [ha] at z1; cases z1
      exact ho _ upd_same
    · have nc : c ≠ a := fun e => by
        subst e
        obtain ⟨l1, g1⟩ := List.getElem?_eq_some_iff.mp (show w.G.ad[j]? = some c from q1)
        obtain ⟨l2, g2⟩ := List.getElem?_eq_some_iff.mp ha
        exact e1 ((List.getElem_inj r.st.nd).mp (g1.trans g2.symm))
      exact (r.st.at_ j c x q1 e2).mono (.refl _) fun y h => (upd_ne nc).trans h
  · obtain ⟨c, vs, h1, h2, h3, h4, h5, h6⟩ := r.sl.own i ds q
    refine ⟨c, vs, h1, ?_, h3, h4, h5, h6⟩
    exact (upd_ne (show c ≠ a from fun e => h5 (e ▸ m))).trans h2
  · obtain ⟨p1, p2, p3, p4⟩ := r.pr q hq
    exact ⟨(upd_ne (show q.1 ≠ a from fun e => p3.1 (e ▸ m))).trans p1, p2, p3, p4⟩
/-- a new cell -/
theorem Rel.newCell (r : Rel K pn w) {p : Addr} {o : Ob} {u : HO} (hp : w.H p = none) (ho : ∀ G' H', w.G.le G' → H' p = some u → ObRel K G' H' p o) :
    w.G.le { w.G with ad := w.G.ad ++ [p] } ∧ Rel K pn { w with G := { w.G with ad := w.G.ad ++ [p] }, H := upd w.H p u, s := { w.s with st := w.s.st ++ [o] } } ∧ Rep K { w.G with ad := w.G.ad ++ [p] } (.ref p) (.loc w.s.st.length) := by
  have g : w.G.le { w.G with ad := w.G.ad ++ [p] } := ⟨fun _ _ h => h, fun n a h => by
    show (w.G.ad ++ [p])[n]? = some a
    rw [List.getElem?_append_left (List.getElem?_eq_some_iff.mp h).1]
    exact h⟩
  have up : ∀ a x, w.H a = some x → upd w.H p u a = some x := fun a x h => by rw [upd_ne (ne_of_none h hp)]; exact h
  have na := r.noA hp
  refine ⟨g, ⟨fun a x h => up a x (r.ex a x h), ⟨r.le.g.trans g, fun a h => ?_, r.le.fz, fun a x h n => up a x (r.le.kp a x h n), fun a x h => ?_⟩, ⟨?_, fun n a x h1 h2 => ?_, fun a h => ?_, ?_⟩, ⟨r.sl.len, fun i d h => ?_, fun i ds h => ?_, r.sl.dis, fun i x h => ?_⟩, fun q hq => ?_⟩, ?_⟩
  · rcases List.mem_append.mp h with z | z
    · exact r.le.nw a z
    · rw [List.mem_singleton.mp z]; exact .inr (r.no0 hp)
  · obtain ⟨x', h'⟩ := r.le.dm a x h
    exact ⟨x', up a x' h'⟩
  · show (w.G.ad ++ [p]).length = (w.s.st ++ [o]).length
    rw [List.length_append, List.length_append, r.st.len]; rfl
  · have h1 : (w.G.ad ++ [p])[n]? = some a := h1
    have h2 : (w.s.st ++ [o])[n]? = some x := h2
    by_cases hn : n < w.G.ad.length
    · rw [List.getElem?_append_left hn] at h1
      rw [List.getElem?_append_left (by rw [← r.st.len]; exact hn)] at h2
      exact (r.st.at_ n a x h1 h2).mono g (up a)
    · rw [List.getElem?_append_right (by omega)] at h1
      rw [List.getElem?_append_right (by rw [← r.st.len]; omega), ← r.st.len] at h2
      have e : n - w.G.ad.length = 0 := by
        have := (List.getElem?_eq_some_iff.mp h1).1
        simp at this; omega
      rw [e] at h1 h2
      simp at h1 h2
      subst h1 h2
      exact ho _ _ g upd_same
  · rcases List.mem_append.mp h with z | z
    · exact r.st.nof a z
    · rw [List.mem_singleton.mp z]; exact r.noF hp
  · show (w.G.ad ++ [p]).Nodup
    rw [List.nodup_append]
    exact ⟨r.st.nd, by simp, fun a ha b hb e => by rw [List.mem_singleton.mp hb] at e; exact na (e ▸ ha)⟩
  · obtain ⟨v, h1, h2⟩ := r.sl.imm i d h
    exact ⟨v, h1, h2.mono g⟩
  · obtain ⟨a, vs, h1, h2, h3, h4, h5, h6⟩ := r.sl.own i ds h
    refine ⟨a, vs, h1, up a _ h2, h3.mono g, h4, fun m => ?_, h6⟩
    rcases List.mem_append.mp m with z | z
    · exact h5 z
    · rw [List.mem_singleton.mp z, hp] at h2; cases h2
  · obtain ⟨a, oe, tl, cls, d, h1, h2, h3, h4⟩ := r.sl.xn i x h
    exact ⟨a, oe, tl, cls, d, h1, h2, h3, h4.mono g⟩
  · obtain ⟨p1, p2, p3, p4⟩ := r.pr q hq
    refine ⟨up _ _ p1, p2, ⟨fun m => ?_, p3.2⟩, p4⟩
    rcases List.mem_append.mp m with z | z
    · exact p3.1 z
    · rw [List.mem_singleton.mp z, hp] at p1; cases p1
  · refine .loc ?_
    show (w.G.ad ++ [p])[w.s.st.length]? = some p
    rw [← r.st.len]
    simp
end
end DL

namespace DL
open PySem PySem.Spec L2

/-! ### expressions -/
def lift (o : Option D) : ME := match o with
  | some d => ret d
  | none => stk
/-- one that stands in a slot; a list that the slot owns is frozen by it -/
def mVar (i : Nat) : ME := fun s => match s.sl[i]? with
  | some (.imm d) => .ok d s
  | some (.own ds) => .ok (.lst ds) (s.put i (.imm (.lst ds)))
  | _ => .stuck
def mC (d : D) : ME := ret d
section
variable {X : Cx} {W : WX}
theorem je_var (i : Nat) {x : Str} {pos : Pos} (hN : X.N[i]? = some x := by rfl) (hv : Vis X.env.scope x := by first | exact Or.inl rfl | exact Or.inr (Or.inl rfl) | exact Or.inr (Or.inr rfl)) (hd : (x == ("__debug__" : Str)) = false := by decide)
    (hcd : (x == ("__classdict__" : Str)) = false := by decide) : JE X W (.Name x pos) (mVar i) := by
  refine PE.imp (pv i hN hv hd hcd) fun σ H Q h => ?_
  obtain ⟨w, rfl, rfl, r, h⟩ := h
  unfold mVar at h
  split at h
  · rename_i d e
    obtain ⟨v, h1, h2⟩ := r.sl.imm i d e
    exact ⟨v, h1, h w.G v w.H (.refl _) r h2⟩
  · rename_i ds e
    obtain ⟨G', v, g, h1, h2, h3⟩ := r.froz e
    exact ⟨v, h1, h G' v w.H g h3 h2⟩
  · exact h.elim
theorem je_c {e : Expr} {v : V} {d : D} (hp : PE X e (tC v)) (hr : ∀ G, Rep X.K G v d) : JE X W e (mC d) := by
  refine PE.imp hp fun σ H Q h => ?_
  obtain ⟨w, rfl, rfl, r, h⟩ := h
  exact h w.G v w.H (.refl _) r (hr _)
theorem je_int {i j pos} : JE X W (.Constant (.int i) j pos) (mC (.int i)) := je_c pe_int fun _ => .int _
theorem je_bl {b j pos} : JE X W (.Constant (.bool b) j pos) (mC (.bl b)) := je_c pe_bl fun _ => .bl _
theorem je_non {j pos} : JE X W (.Constant .none j pos) (mC .non) := je_c pe_non fun _ => .non
theorem je_str {x j pos} : JE X W (.Constant (.str x) j pos) (mC (.str x)) := je_c pe_str fun _ => .str _
/-- a new list, frozen -/
def mFz (m : MA) : ME := bnd m fun ds => ret (.lst ds)
theorem je_fz {e : Expr} {m : MA} (h : JF X W e m) : JE X W e (mFz m) := by
  refine PE.imp h fun σ H Q h => ?_
  obtain ⟨w, rfl, rfl, r, h⟩ := h
  refine run r h fun ds s' G' v H' g r' a h' => ?_
  obtain ⟨G2, g2, r2, p⟩ := AF.rep r' a
  exact h' G2 v H' g2 r2 p

/-! arguments -/
def mNil : MA := ret []
def mCons (m : ME) (ms : MA) : MA := bnd m fun d => bnd ms fun ds => ret (d :: ds)
theorem bnd_ok {α β : Type} {m : S → R α} {k : α → S → R β} {s s' : S} {b : β} (h : bnd m k s = .ok b s') : ∃ a s1, m s = .ok a s1 ∧ k a s1 = .ok b s' := by
  unfold bnd at h
  cases hm : m s with
  | ok a s1 => rw [hm] at h; exact ⟨a, s1, rfl, h⟩
  | exc x s1 => rw [hm] at h; cases h
  | stuck => rw [hm] at h; cases h
theorem ja_nil : JA X W [] mNil := by
  refine ⟨PA.imp pa_nil fun σ H Q h => ?_, fun s as s' h => ?_⟩
  · obtain ⟨w, rfl, rfl, r, h⟩ := h
    exact fin r h .nil
  · cases h; rfl
theorem ja_cons {e : Expr} {es : List Expr} {m : ME} {ms : MA} (he : JE X W e m) (hs : JA X W es ms) (hst : starEach (e :: es) X.env = (false, eval e X.env) :: starEach es X.env := by rfl) : JA X W (e :: es) (mCons m ms) := by
  refine ⟨PA.imp (pa_cons he hs.pa hst) fun σ H Q h => ?_, fun s as s' h => ?_⟩
  · obtain ⟨w, rfl, rfl, r, h⟩ := h
    refine run r h fun d s' G' v H' g r' a h' => ?_
    refine run r' h' fun ds s2 G2 vs H2 g2 r2 a2 h2 => ?_
    exact fin r2 h2 (.cons (a.mono g2) a2)
  · obtain ⟨a, s1, h1, h2⟩ := bnd_ok h
    obtain ⟨b, s2, h3, h4⟩ := bnd_ok h2
    cases h4
    rw [List.length_cons, List.length_cons, hs.len _ _ _ h3]
/-- displays -/
def few (n : Nat) : Prop := n ≤ 1000000
instance (n : Nat) : Decidable (few n) := inferInstanceAs (Decidable (n ≤ 1000000))
theorem few.line {n : Nat} (h : few n) : n ≤ sizeLine := Nat.le_trans h (by rw [sizeLine_eq]; decide)
def mTup (m : MA) : ME := bnd m fun ds s => if few ds.length then .ok (.tup ds) s else .stuck
theorem je_tup {es : List Expr} {m : MA} {x1} {pos : Pos} (h : JA X W es m) : JE X W (.Tuple es x1 pos) (mTup m) := by
  refine PE.imp (pe_tup h.pa) fun σ H Q h => ?_
  obtain ⟨w, rfl, rfl, r, h⟩ := h
  refine run r h fun ds s' G' vs H' g r' a h' => ?_
  split at h'
  · rename_i hf
    refine ⟨by rw [Reps.length a]; exact hf.line, fun p hp => ?_⟩
    have hn : G'.F p = none := r'.noF hp
    exact h' _ _ _ (gle_upd hn) (r'.new hp) (.tup upd_same (a.mono (gle_upd hn)))
  · exact h'.elim
def mLst (m : MA) : MA := bnd m fun ds s => if few ds.length then .ok ds s else .stuck
theorem jf_lst {es : List Expr} {m : MA} {pos : Pos} (h : JA X W es m) : JF X W (.List es pos) (mLst m) := by
  refine PE.imp (pe_lst h.pa) fun σ H Q h => ?_
  obtain ⟨w, rfl, rfl, r, h⟩ := h
  refine run r h fun ds s' G' vs H' g r' a h' => ?_
  split at h'
  · rename_i hf
    refine ⟨by rw [Reps.length a]; exact hf.line, fun p hp => ?_⟩
    exact h' _ _ _ (.refl _) (r'.alloc hp) (AF.new r' hp a)
  · exact h'.elim

/-! operators -/
/-- r does on values what f does on data -/
def R2Ok (K : PySem.W.Frag) (r : R2) (f : D → D → Option D) : Prop := ∀ (pn : List (Addr × Obj)) (w : Wd) (x y : V) (d e z : D) (Q : VK), Rel K pn w → Rep K w.G x d → Rep K w.G y e → f d e = some z →
  (∀ G' v H', w.G.le G' → Rel K pn { w with G := G', H := H' } → Rep K G' v z → Q v H') → r x y w.H Q
def R2OkF (K : PySem.W.Frag) (r : R2) (f : D → D → Option (List D)) : Prop := ∀ (pn : List (Addr × Obj)) (w : Wd) (x y : V) (d e : D) (z : List D) (Q : VK), Rel K pn w → Rep K w.G x d → Rep K w.G y e → f d e = some z →
  (∀ G' v H', w.G.le G' → Rel K pn { w with G := G', H := H' } → AF K { w with G := G', H := H' } v z → Q v H') → r x y w.H Q
def mBin (f : D → D → Option D) (a b : ME) : ME := bnd a fun d => bnd b fun e => lift (f d e)
def mBinF (f : D → D → Option (List D)) (a b : ME) : MA := bnd a fun d => bnd b fun e s => match f d e with
  | some z => .ok z s
  | none => .stuck
theorem r2_run {r : R2} {f : D → D → Option D} {a b : ME} {σ : L2.St} {H : Hp} {Q : VK} (hr : R2Ok X.K r f) (h : tG X.K X.pn W (AR X.K) (mBin f a b) σ H Q) : tOp r (tG X.K X.pn W (AR X.K) a) (tG X.K X.pn W (AR X.K) b) σ H Q := by
  obtain ⟨w, rfl, rfl, r0, h⟩ := h
  refine run r0 h fun d s' G' v H' g r' p h' => ?_
  refine run r' h' fun e s2 G2 u H2 g2 r2 p2 h2 => ?_
  cases hz : f d e with
  | some z =>
    rw [hz] at h2
    exact hr X.pn _ v u d e z Q r2 (p.mono g2) p2 hz fun G3 y H3 g3 r3 p3 => h2 G3 y H3 g3 r3 p3
  | none =>
    rw [hz] at h2
    exact h2.elim
theorem r2_runF {r : R2} {f : D → D → Option (List D)} {a b : ME} {σ : L2.St} {H : Hp} {Q : VK} (hr : R2OkF X.K r f) (h : tG X.K X.pn W (AF X.K) (mBinF f a b) σ H Q) : tOp r (tG X.K X.pn W (AR X.K) a) (tG X.K X.pn W (AR X.K) b) σ H Q := by
  obtain ⟨w, rfl, rfl, r0, h⟩ := h
  refine run r0 h fun d s' G' v H' g r' p h' => ?_
  refine run r' h' fun e s2 G2 u H2 g2 r2 p2 h2 => ?_
  cases hz : f d e with
  | some z =>
    rw [hz] at h2
    exact hr X.pn _ v u d e z Q r2 (p.mono g2) p2 hz fun G3 y H3 g3 r3 p3 => h2 G3 y H3 g3 r3 p3
  | none =>
    rw [hz] at h2
    exact h2.elim
theorem je_bin {op : Operator} {r : R2} {f : D → D → Option D} {a b : Expr} {ma mb : ME} {pos : Pos} (ho : OpR X (binaryOp op) r) (hr : R2Ok X.K r f) (ha : JE X W a ma) (hb : JE X W b mb) : JE X W (.BinOp a op b pos) (mBin f ma mb) :=
  PE.imp (pe_op ho ha hb) fun _ _ _ h => r2_run hr h
theorem jf_bin {op : Operator} {r : R2} {f : D → D → Option (List D)} {a b : Expr} {ma mb : ME} {pos : Pos} (ho : OpR X (binaryOp op) r) (hr : R2OkF X.K r f) (ha : JE X W a ma) (hb : JE X W b mb) : JF X W (.BinOp a op b pos) (mBinF f ma mb) :=
  PE.imp (pe_op ho ha hb) fun _ _ _ h => r2_runF hr h
theorem je_cmp {op : CmpOp} {r : R2} {f : D → D → Option D} {a b : Expr} {ma mb : ME} {pos : Pos} (ho : OpR X (compareOp op) r) (hr : R2Ok X.K r f) (ha : JE X W a ma) (hb : JE X W b mb) (hm : behindInMarks op b = false) : JE X W (.Compare a [op] [b] pos) (mBin f ma mb) :=
  PE.imp (pe_cmpR ho ha hb hm) fun _ _ _ h => r2_run hr h
end
theorem R2Ok.or {K : PySem.W.Frag} {r r' : R2} {f f' : D → D → Option D} (h : R2Ok K r f) (h' : R2Ok K r' f') : R2Ok K (fun x y H Q => r x y H Q ∨ r' x y H Q) (fun d e => (f d e).orElse fun _ => f' d e) := by
  intro pn w x y d e z Q r0 p1 p2 hz k
  cases hf : f d e with
  | some z' =>
    have hz' : z' = z := by simpa [hf] using hz
    subst hz'
    exact .inl (h pn w x y d e z' Q r0 p1 p2 hf k)
  | none =>
    exact .inr (h' pn w x y d e z Q r0 p1 p2 (by simpa [hf] using hz) k)
/-- ints -/
def intF (g : Int → Int → Option D) : D → D → Option D
  | .int i, .int j => g i j
  | _, _ => none
theorem r2_I0 {K : PySem.W.Frag} {g : Int → Int → V} {g' : Int → Int → D} (h : ∀ i j G, Rep K G (g i j) (g' i j)) : R2Ok K (rI0 g) (intF fun i j => some (g' i j)) := by
  intro pn w x y d e z Q r p1 p2 hz k
  unfold intF at hz
  split at hz
  · cases p1; cases p2; cases hz
    exact ⟨_, _, rfl, rfl, k _ _ _ (.refl _) r (h _ _ _)⟩
  · cases hz
theorem r2_I {K : PySem.W.Frag} {C : Int → Int → Prop} {g : Int → Int → V} {g' : Int → Int → Option D} (h : ∀ i j z, g' i j = some z → C i j ∧ ∀ G, Rep K G (g i j) z) : R2Ok K (rI C g) (intF g') := by
  intro pn w x y d e z Q r p1 p2 hz k
  unfold intF at hz
  split at hz
  · cases p1; cases p2
    obtain ⟨hc, hp⟩ := h _ _ _ hz
    exact ⟨_, _, rfl, rfl, hc, k _ _ _ (.refl _) r (hp _)⟩
  · cases hz
section
variable {K : PySem.W.Frag}
/-! the operators of ints -/
def iAdd := intF fun i j => some (.int (i + j))
def iSub := intF fun i j => some (.int (i - j))
/-- within a million bits -/
def bits (i : Int) : Nat := i.natAbs.log2
def iMul := intF fun i j => if bits i + bits j < 1000000 then some (.int (i * j)) else none
def iDiv := intF fun i j => if 0 < j ∧ bits j < 9000 then some (.int (i / j)) else none
def iMod := intF fun i j => if 0 < j then some (.int (i % j)) else none
def iLt := intF fun i j => some (.bl (decide (i < j)))
def iLe := intF fun i j => some (.bl (decide (i ≤ j)))
def iGt := intF fun i j => some (.bl (decide (j < i)))
def iGe := intF fun i j => some (.bl (decide (j ≤ i)))
def iPow := intF fun i j => if 0 ≤ j ∧ j ≤ 1000000 ∧ i.natAbs < 2 ^ 64 then some (.int (i ^ j.toNat)) else none
theorem k_add : R2Ok K (rI0 fun i j => .int (i + j)) iAdd := r2_I0 fun _ _ _ => .int _
theorem k_sub : R2Ok K (rI0 fun i j => .int (i - j)) iSub := r2_I0 fun _ _ _ => .int _
theorem k_mul : R2Ok K (rI CMulW fun i j => .int (i * j)) iMul := r2_I fun i j z h => by
  split at h
  · rename_i c; cases h; exact ⟨c, fun _ => .int _⟩
  · cases h
theorem k_div : R2Ok K (rI CDivW fun i j => .int (i / j)) iDiv := r2_I fun i j z h => by
  split at h
  · rename_i c; cases h; exact ⟨c, fun _ => .int _⟩
  · cases h
theorem k_mod : R2Ok K (rI (fun _ j => 0 < j) fun i j => .int (i % j)) iMod := r2_I fun i j z h => by
  split at h
  · rename_i c; cases h; exact ⟨c, fun _ => .int _⟩
  · cases h
theorem k_pow : R2Ok K (rI CPow fun i j => .int (i ^ j.toNat)) iPow := r2_I fun i j z h => by
  split at h
  · rename_i c; cases h; exact ⟨c, fun _ => .int _⟩
  · cases h
theorem k_lt : R2Ok K (rI0 fun i j => .bl (decide (i < j))) iLt := r2_I0 fun _ _ _ => .bl _
theorem k_le : R2Ok K (rI0 fun i j => .bl (decide (i ≤ j))) iLe := r2_I0 fun _ _ _ => .bl _
theorem k_gt : R2Ok K (rI0 fun i j => .bl (decide (j < i))) iGt := r2_I0 fun _ _ _ => .bl _
theorem k_ge : R2Ok K (rI0 fun i j => .bl (decide (j ≤ i))) iGe := r2_I0 fun _ _ _ => .bl _
end

/-! ### truth, tests -/
def tru : D → Option Bool
  | .non => some false
  | .bl b => some b
  | .int i => some (i != 0)
  | .str x => if few x.length then some ((x.length : Int) != 0) else none
  | .tup xs => some (!xs.isEmpty)
  | .lst xs => some (!xs.isEmpty)
  | .nod => some false
  | _ => none
theorem Reps.empty {K : PySem.W.Frag} {G : Gh} {vs : List V} {ds : List D} (h : Reps K G vs ds) : vs.isEmpty = ds.isEmpty := by cases h <;> rfl
theorem tru_of {K : PySem.W.Frag} {pn : List (Addr × Obj)} {w : Wd} {x : V} {d : D} {b : Bool} (r : Rel K pn w) (p : Rep K w.G x d) (h : tru d = some b) : TruV K x w.H b := by
  cases p with
  | non => cases h; rfl
  | bl c => cases h; rfl
  | int i => cases h; rfl
  | str z =>
    have h : (if few z.length then some ((z.length : Int) != 0) else none) = some b := h
    by_cases hf : few z.length
    · rw [if_pos hf] at h; cases h; exact ⟨hf.line, rfl⟩
    · rw [if_neg hf] at h; cases h
  | tup hs q => cases h; exact .inr (.inl ⟨_, tqT r.ex hs, by rw [q.empty]⟩)
  | lst hs q => cases h; exact .inl ⟨_, SqL.of (r.ex _ _ hs), by rw [q.empty]⟩
  | kl hs q => cases h
  | kt hs q => cases h
  | nod hs =>
    cases h
    exact .inr (.inr ⟨[], r.ex _ _ hs, rfl⟩)
  | loc hs => cases h
  | ins hs q => cases h
end DL

namespace DL
open PySem PySem.Spec L2

/-! ### == -/
/-- things that are not two tuples, not two lists -/
def sc : D → D → Option Bool
  | .non, .non => some true
  | .bl a, .bl b => some (a == b)
  | .int a, .int b => some (a == b)
  | .str a, .str b => some (a == b)
  | .bl a, .int b => some ((if a then 1 else 0) == b)
  | .int a, .bl b => some (a == (if b then 1 else 0))
  | .non, .bl _ => some false | .non, .int _ => some false | .non, .str _ => some false | .non, .tup _ => some false | .non, .lst _ => some false
  | .bl _, .non => some false | .bl _, .str _ => some false | .bl _, .tup _ => some false | .bl _, .lst _ => some false
  | .int _, .non => some false | .int _, .str _ => some false | .int _, .tup _ => some false | .int _, .lst _ => some false
  | .str _, .non => some false | .str _, .bl _ => some false | .str _, .int _ => some false | .str _, .tup _ => some false | .str _, .lst _ => some false
  | .tup _, .non => some false | .tup _, .bl _ => some false | .tup _, .int _ => some false | .tup _, .str _ => some false | .tup _, .lst _ => some false
  | .lst _, .non => some false | .lst _, .bl _ => some false | .lst _, .int _ => some false | .lst _, .str _ => some false | .lst _, .tup _ => some false
  | _, _ => none
def deqs (f : D → D → Option Bool) : List D → List D → Option Bool
  | [], [] => some true
  | x :: xs, y :: ys => match f x y, deqs f xs ys with
    | some b, some c => some (b && c)
    | _, _ => none
  | _, _ => some false
def deq : Nat → D → D → Option Bool
  | n + 1, .tup xs, .tup ys => deqs (deq n) xs ys
  | n + 1, .lst xs, .lst ys => deqs (deq n) xs ys
  | _, .nod, .nod => some true
  | _, d, e => sc d e
theorem deqs_all {f : D → D → Option Bool} : ∀ {xs ys : List D} {b : Bool}, deqs f xs ys = some b → (∀ (j : Nat) x y, xs[j]? = some x → ys[j]? = some y → ∃ c, f x y = some c) ∧ b = (((List.range (min xs.length ys.length)).all fun j => (match xs[j]?, ys[j]? with | some x, some y => (f x y).getD false | _, _ => false)) && xs.length == ys.length)
  | [], [], b, h => by cases h; exact ⟨fun j x y h => by simp at h, by simp⟩
  | [], y :: ys, b, h => by cases h; exact ⟨fun j x y h => by simp at h, by simp⟩
  | x :: xs, [], b, h => by cases h; exact ⟨fun j x y _ h => by simp at h, by simp⟩
  | x :: xs, y :: ys, b, h => by
    unfold deqs at h
    cases h1 : f x y with
    | none => rw [h1] at h; cases h
    | some c =>
      cases h2 : deqs f xs ys with
      | none => rw [h1, h2] at h; cases h
      | some c2 =>
        rw [h1, h2] at h
        cases h
        obtain ⟨g1, g2⟩ := deqs_all h2
        refine ⟨fun j a b ha hb => ?_, ?_⟩
        · cases j with
          | zero => simp at ha hb; subst ha hb; exact ⟨c, h1⟩
          | succ j => exact g1 j a b (by simpa using ha) (by simpa using hb)
        · rw [g2]
          have e : min (x :: xs).length (y :: ys).length = min xs.length ys.length + 1 := by simp only [List.length_cons]; omega
          rw [e, List.range_succ_eq_map, List.all_cons, List.all_map]
          simp only [List.getElem?_cons_zero, h1, Option.getD_some, List.length_cons, Bool.and_assoc]
          congr 2
          simp
section
variable {X : Cx} {pins : List (Addr × Obj)} {σ : L2.St} {s : Shared} {pn : List (Addr × Obj)} {w : Wd}
theorem rep_tup (I : Inv X pins σ w.H s) (r : Rel X.K pn w) {x : V} {u : Value} {ds : List D} (p : Rep X.K w.G x (.tup ds)) (q : RelV x u) : ∃ a vs its, u = .ref a ∧ x = .ref a ∧ Reps X.K w.G vs ds ∧ Vals vs its ∧ s.heap.IsTuple a its.toArray := by
  cases p with
  | tup h rs =>
    cases q
    obtain ⟨its, rv, ht, hz⟩ := I.tuple (tqT r.ex h)
    exact ⟨_, _, its, rfl, rfl, rs, rv, ht⟩
theorem rep_lst (I : Inv X pins σ w.H s) (r : Rel X.K pn w) {x : V} {u : Value} {ds : List D} (p : Rep X.K w.G x (.lst ds)) (q : RelV x u) : ∃ a vs its, u = .ref a ∧ x = .ref a ∧ Reps X.K w.G vs ds ∧ Vals vs its ∧ s.heap.IsList a its.toArray := by
  cases p with
  | lst h rs =>
    cases q
    obtain ⟨its, rv, ht, hz⟩ := I.list (SqL.of (r.ex _ _ h))
    exact ⟨_, _, its, rfl, rfl, rs, rv, ht.isList⟩
theorem sc_rc (I : Inv X pins σ w.H s) (r : Rel X.K pn w) {x y : V} {u v : Value} {d e : D} {b : Bool} (h : sc d e = some b) (p1 : Rep X.K w.G x d) (p2 : Rep X.K w.G y e) (q1 : RelV x u) (q2 : RelV y v) {A : Around} (hu : A.units < cLine) :
    SeqAt.RcAt A s u v b ∧ SeqAt.EqAt A s u v b := by
  unfold sc at h
  split at h <;> (try cases h)
  · cases p1; cases p2; cases q1; cases q2; exact ⟨.none_none, SeqAt.EqAt.same _⟩
  · cases p1; cases p2; cases q1; cases q2; exact ⟨.bool_bool _ _, .bool_bool _ _⟩
  · cases p1; cases p2; obtain ⟨t, rfl⟩ := q1; obtain ⟨t', rfl⟩ := q2; exact ⟨.int_int _ _ _ _, .int_int _ _ _ _⟩
  · cases p1; cases p2; obtain ⟨t, rfl⟩ := q1; obtain ⟨t', rfl⟩ := q2; exact ⟨.str_str _ _ _ _, .str_str _ _ _ _⟩
  · cases p1; cases p2; cases q1; obtain ⟨t', rfl⟩ := q2; exact ⟨.bool_int _ _ _, .bool_int _ _ _⟩
  · cases p1; cases p2; obtain ⟨t, rfl⟩ := q1; cases q2; exact ⟨.int_bool _ _ _, .int_bool _ _ _⟩
  · cases p1; cases p2; cases q1; cases q2; exact ⟨.none_bool _, .none_bool _⟩
  · cases p1; cases p2; cases q1; obtain ⟨t', rfl⟩ := q2; exact ⟨.none_int _ _, .none_int _ _⟩
  · cases p1; cases p2; cases q1; obtain ⟨t', rfl⟩ := q2; exact ⟨.none_str _ _, .none_str _ _⟩
  · obtain ⟨a, vs, its, rfl, rfl, _, _, hl⟩ := rep_tup I r p2 q2; cases p1; cases q1; exact ⟨.none_tuple hl hu, .none_tuple hl hu⟩
  · obtain ⟨a, vs, its, rfl, rfl, _, _, hl⟩ := rep_lst I r p2 q2; cases p1; cases q1; exact ⟨.none_list hl hu, .none_list hl hu⟩
  · cases p1; cases p2; cases q1; cases q2; exact ⟨.bool_none _, .bool_none _⟩
  · cases p1; cases p2; cases q1; obtain ⟨t', rfl⟩ := q2; exact ⟨.bool_str _ _ _, .bool_str _ _ _⟩
  · obtain ⟨a, vs, its, rfl, rfl, _, _, hl⟩ := rep_tup I r p2 q2; cases p1; cases q1; exact ⟨.bool_tuple _ hl hu, .bool_tuple _ hl hu⟩
  · obtain ⟨a, vs, its, rfl, rfl, _, _, hl⟩ := rep_lst I r p2 q2; cases p1; cases q1; exact ⟨.bool_list _ hl hu, .bool_list _ hl hu⟩
  · cases p1; cases p2; obtain ⟨t, rfl⟩ := q1; cases q2; exact ⟨.int_none _ _, .int_none _ _⟩
  · cases p1; cases p2; obtain ⟨t, rfl⟩ := q1; obtain ⟨t', rfl⟩ := q2; exact ⟨.int_str _ _ _ _, .int_str _ _ _ _⟩
  · obtain ⟨a, vs, its, rfl, rfl, _, _, hl⟩ := rep_tup I r p2 q2; cases p1; obtain ⟨t, rfl⟩ := q1; exact ⟨.int_tuple _ _ hl hu, .int_tuple _ _ hl hu⟩
  · obtain ⟨a, vs, its, rfl, rfl, _, _, hl⟩ := rep_lst I r p2 q2; cases p1; obtain ⟨t, rfl⟩ := q1; exact ⟨.int_list _ _ hl hu, .int_list _ _ hl hu⟩
  · cases p1; cases p2; obtain ⟨t, rfl⟩ := q1; cases q2; exact ⟨.str_none _ _, .str_none _ _⟩
  · cases p1; cases p2; obtain ⟨t, rfl⟩ := q1; cases q2; exact ⟨.str_bool _ _ _, .str_bool _ _ _⟩
  · cases p1; cases p2; obtain ⟨t, rfl⟩ := q1; obtain ⟨t', rfl⟩ := q2; exact ⟨.str_int _ _ _ _, .str_int _ _ _ _⟩
  · obtain ⟨a, vs, its, rfl, rfl, _, _, hl⟩ := rep_tup I r p2 q2; cases p1; obtain ⟨t, rfl⟩ := q1; exact ⟨.str_tuple _ _ hl hu, .str_tuple _ _ hl hu⟩
  · obtain ⟨a, vs, its, rfl, rfl, _, _, hl⟩ := rep_lst I r p2 q2; cases p1; obtain ⟨t, rfl⟩ := q1; exact ⟨.str_list _ _ hl hu, .str_list _ _ hl hu⟩
  · obtain ⟨a, vs, its, rfl, rfl, _, _, hl⟩ := rep_tup I r p1 q1; cases p2; cases q2; exact ⟨.tuple_none hl hu, .tuple_none hl hu⟩
  · obtain ⟨a, vs, its, rfl, rfl, _, _, hl⟩ := rep_tup I r p1 q1; cases p2; cases q2; exact ⟨.tuple_bool _ hl hu, .tuple_bool _ hl hu⟩
  · obtain ⟨a, vs, its, rfl, rfl, _, _, hl⟩ := rep_tup I r p1 q1; cases p2; obtain ⟨t, rfl⟩ := q2; exact ⟨.tuple_int _ _ hl hu, .tuple_int _ _ hl hu⟩
  · obtain ⟨a, vs, its, rfl, rfl, _, _, hl⟩ := rep_tup I r p1 q1; cases p2; obtain ⟨t, rfl⟩ := q2; exact ⟨.tuple_str _ _ hl hu, .tuple_str _ _ hl hu⟩
  · obtain ⟨a, vs, its, rfl, rfl, _, _, hl⟩ := rep_tup I r p1 q1; obtain ⟨a', vs', its', rfl, rfl, _, _, hl'⟩ := rep_lst I r p2 q2; exact ⟨.tuple_list hl hl' hu, .tuple_list hl hl' hu⟩
  · obtain ⟨a, vs, its, rfl, rfl, _, _, hl⟩ := rep_lst I r p1 q1; cases p2; cases q2; exact ⟨.list_none hl hu, .list_none hl hu⟩
  · obtain ⟨a, vs, its, rfl, rfl, _, _, hl⟩ := rep_lst I r p1 q1; cases p2; cases q2; exact ⟨.list_bool _ hl hu, .list_bool _ hl hu⟩
  · obtain ⟨a, vs, its, rfl, rfl, _, _, hl⟩ := rep_lst I r p1 q1; cases p2; obtain ⟨t, rfl⟩ := q2; exact ⟨.list_int _ _ hl hu, .list_int _ _ hl hu⟩
  · obtain ⟨a, vs, its, rfl, rfl, _, _, hl⟩ := rep_lst I r p1 q1; cases p2; obtain ⟨t, rfl⟩ := q2; exact ⟨.list_str _ _ hl hu, .list_str _ _ hl hu⟩
  · obtain ⟨a, vs, its, rfl, rfl, _, _, hl⟩ := rep_lst I r p1 q1; obtain ⟨a', vs', its', rfl, rfl, _, _, hl'⟩ := rep_tup I r p2 q2; exact ⟨.list_tuple hl hl' hu, .list_tuple hl hl' hu⟩
end
end DL

namespace DL
open PySem PySem.Spec L2
theorem deq_tup {n : Nat} {xs ys : List D} : deq (n + 1) (.tup xs) (.tup ys) = deqs (deq n) xs ys := rfl
theorem deq_lst {n : Nat} {xs ys : List D} : deq (n + 1) (.lst xs) (.lst ys) = deqs (deq n) xs ys := rfl
theorem deq_cases {n : Nat} {d e : D} {b : Bool} (h : deq n d e = some b) : (∃ m xs ys, n = m + 1 ∧ d = .tup xs ∧ e = .tup ys ∧ deqs (deq m) xs ys = some b) ∨ (∃ m xs ys, n = m + 1 ∧ d = .lst xs ∧ e = .lst ys ∧ deqs (deq m) xs ys = some b) ∨ (d = .nod ∧ e = .nod ∧ b = true) ∨ sc d e = some b := by
  unfold deq at h
  split at h
  · exact .inl ⟨_, _, _, rfl, rfl, rfl, h⟩
  · exact .inr (.inl ⟨_, _, _, rfl, rfl, rfl, h⟩)
  · cases h; exact .inr (.inr (.inl ⟨rfl, rfl, rfl⟩))
  · exact .inr (.inr (.inr h))
section
variable {X : Cx} {pins : List (Addr × Obj)} {σ : L2.St} {s : Shared} {pn : List (Addr × Obj)} {w : Wd}
theorem not_both (I : Inv X pins σ w.H s) (r : Rel X.K pn w) {x : V} {ds es : List D} (p : Rep X.K w.G x (.tup ds)) (q : Rep X.K w.G x (.lst es)) : False := by
  cases p with
  | tup h rs =>
    cases q with
    | lst h' rs' =>
      obtain ⟨its, rv, ht, hz⟩ := I.tuple (tqT r.ex h)
      obtain ⟨its', rv', ht', hz'⟩ := I.list (SqL.of (r.ex _ _ h'))
      exact SeqAt.ne_of_list_tuple ht'.isList ht rfl
theorem sc_self (I : Inv X pins σ w.H s) (r : Rel X.K pn w) {x : V} {d e : D} {b : Bool} (h : sc d e = some b) (p1 : Rep X.K w.G x d) (p2 : Rep X.K w.G x e) : b = true := by
  unfold sc at h
  split at h <;> first
    | (cases h; done)
    | (exact (not_both I r p1 p2).elim)
    | (exact (not_both I r p2 p1).elim)
    | (cases p1 <;> cases p2 <;> cases h <;> (try simp))
theorem deqs_self {f : D → D → Option Bool} {G : Gh} {K : PySem.W.Frag} (hf : ∀ x d e b, f d e = some b → Rep K G x d → Rep K G x e → b = true) : ∀ {vs : List V} {ds es : List D} {b : Bool}, deqs f ds es = some b → Reps K G vs ds → Reps K G vs es → b = true
  | _, _, _, _, h, .nil, .nil => by cases h; rfl
  | _ :: _, d :: ds, d' :: ds', b, h, .cons p1 r1, .cons p2 r2 => by
    unfold deqs at h
    cases h1 : f d d' with
    | none => rw [h1] at h; cases h
    | some c =>
      cases h2 : deqs f ds ds' with
      | none => rw [h1, h2] at h; cases h
      | some c2 =>
        rw [h1, h2] at h
        cases h
        rw [hf _ _ _ _ h1 p1 p2, deqs_self hf h2 r1 r2]; rfl
theorem deq_self (I : Inv X pins σ w.H s) (r : Rel X.K pn w) : ∀ (n : Nat) (x : V) (d e : D) (b : Bool), deq n d e = some b → Rep X.K w.G x d → Rep X.K w.G x e → b = true := by
  intro n
  induction n with
  | zero =>
    intro x d e b h p1 p2
    rcases deq_cases h with ⟨m, xs, ys, hn, _⟩ | ⟨m, xs, ys, hn, _⟩ | ⟨rfl, rfl, rfl⟩ | hs
    · cases hn
    · cases hn
    · rfl
    · exact sc_self I r hs p1 p2
  | succ n ih =>
    intro x d e b h p1 p2
    rcases deq_cases h with ⟨m, xs, ys, hn, rfl, rfl, hs⟩ | ⟨m, xs, ys, hn, rfl, rfl, hs⟩ | ⟨rfl, rfl, rfl⟩ | hs
    · cases hn
      cases p1 with
      | tup h1 r1 =>
        cases p2 with
        | tup h2 r2 =>
          have e := I.tuple_inj (tqT r.ex h1) (tqT r.ex h2)
          subst e
          exact deqs_self ih hs r1 r2
    · cases hn
      cases p1 with
      | lst h1 r1 =>
        cases p2 with
        | lst h2 r2 =>
          have e := I.list_inj (SqL.of (r.ex _ _ h1)) (SqL.of (r.ex _ _ h2))
          subst e
          exact deqs_self ih hs r1 r2
    · rfl
    · exact sc_self I r hs p1 p2
theorem vals_get {vs : List V} {its : List Value} {j : Nat} {u : Value} (r : Vals vs its) (h : its[j]? = some u) : ∃ v, vs[j]? = some v ∧ RelV v u := by
  have hl : j < vs.length := by rw [r.length]; exact (List.getElem?_eq_some_iff.mp h).1
  obtain ⟨u', h1, h2⟩ := r.get (List.getElem?_eq_getElem hl)
  rw [h] at h1; cases h1
  exact ⟨_, List.getElem?_eq_getElem hl, h2⟩
/-- the items' trees -/
theorem items_tree {n : Nat} {xs ys : List D} {b : Bool} {vs us : List V} {its jts : List Value} (hs : deqs (deq n) xs ys = some b) (r1 : Reps X.K w.G vs xs) (r2 : Reps X.K w.G us ys) (q1 : Vals vs its) (q2 : Vals us jts)
    (ih : ∀ x y d e c u v, deq n d e = some c → Rep X.K w.G x d → Rep X.K w.G y e → RelV x u → RelV y v → PySem.W.EqTree X.prog X.w s (n + 1) u v c) :
    (∀ j (h1 : j < its.toArray.size) (h2 : j < jts.toArray.size), PySem.W.EqTree X.prog X.w s (n + 1) its.toArray[j] jts.toArray[j] (match xs[j]?, ys[j]? with | some x, some y => (deq n x y).getD false | _, _ => false)) ∧
      b = (((List.range (min its.toArray.size jts.toArray.size)).all fun j => (match xs[j]?, ys[j]? with | some x, some y => (deq n x y).getD false | _, _ => false)) && its.toArray.size == jts.toArray.size) := by
  obtain ⟨g1, g2⟩ := deqs_all hs
  have e1 : xs.length = its.toArray.size := by rw [List.size_toArray, ← q1.length, r1.length]
  have e2 : ys.length = jts.toArray.size := by rw [List.size_toArray, ← q2.length, r2.length]
  refine ⟨fun j h1 h2 => ?_, by rw [← e1, ← e2]; exact g2⟩
  have k1 : its[j]? = some its.toArray[j] := by rw [List.getElem?_eq_getElem (by omega)]; simp
  have k2 : jts[j]? = some jts.toArray[j] := by rw [List.getElem?_eq_getElem (by omega)]; simp
  obtain ⟨v, v1, v2⟩ := vals_get q1 k1
  obtain ⟨u, u1, u2⟩ := vals_get q2 k2
  obtain ⟨d, d1, d2⟩ := r1.get' v1
  obtain ⟨e, f1, f2⟩ := r2.get' u1
  obtain ⟨c, hc⟩ := g1 j d e d1 f1
  rw [d1, f1]
  simp only [hc, Option.getD_some]
  exact ih v u d e c _ _ hc d2 f2 v2 u2
theorem deq_tree (I : Inv X pins σ w.H s) (r : Rel X.K pn w) : ∀ (n : Nat) (x y : V) (d e : D) (b : Bool) (u v : Value), deq n d e = some b → Rep X.K w.G x d → Rep X.K w.G y e → RelV x u → RelV y v → PySem.W.EqTree X.prog X.w s (n + 1) u v b := by
  intro n
  induction n with
  | zero =>
    intro x y d e b u v h p1 p2 q1 q2
    rcases deq_cases h with ⟨m, xs, ys, hn, _⟩ | ⟨m, xs, ys, hn, _⟩ | ⟨rfl, rfl, rfl⟩ | hs
    · cases hn
    · cases hn
    · cases p1 with
      | nod h1 =>
        cases p2 with
        | nod h2 =>
          cases q1; cases q2
          rename_i a a'
          by_cases e : a = a'
          · subst e; exact .same
          · obtain ⟨_, hS, vs, kr, m⟩ := I.hok a _ (r.ex _ _ h1)
            obtain ⟨_, hS', vs', kr', m'⟩ := I.hok a' _ (r.ex _ _ h2)
            cases kr; cases kr'
            exact .dicts (e := fun _ => true) e hS hS' m m' fun k v y hm => by cases hm
    · exact .leaf fun A hu => (sc_rc I r hs p1 p2 q1 q2 (by omega)).2
  | succ n ih =>
    intro x y d e b u v h p1 p2 q1 q2
    rcases deq_cases h with ⟨m, xs, ys, hn, rfl, rfl, hs⟩ | ⟨m, xs, ys, hn, rfl, rfl, hs⟩ | ⟨rfl, rfl, rfl⟩ | hs
    · cases hn
      obtain ⟨a, vs, its, rfl, rfl, k1, k2, hl⟩ := rep_tup I r p1 q1
      obtain ⟨a', vs', its', rfl, rfl, k1', k2', hl'⟩ := rep_tup I r p2 q2
      by_cases e : a = a'
      · subst e
        rw [deq_self I r _ _ _ _ _ h p1 p2]; exact .same
      · obtain ⟨t1, t2⟩ := items_tree hs k1 k1' k2 k2' (fun x y d e c u v => ih x y d e c u v)
        rw [t2]
        exact .tuples e hl hl' t1
    · cases hn
      obtain ⟨a, vs, its, rfl, rfl, k1, k2, hl⟩ := rep_lst I r p1 q1
      obtain ⟨a', vs', its', rfl, rfl, k1', k2', hl'⟩ := rep_lst I r p2 q2
      by_cases e : a = a'
      · subst e
        rw [deq_self I r _ _ _ _ _ h p1 p2]; exact .same
      · obtain ⟨t1, t2⟩ := items_tree hs k1 k1' k2 k2' (fun x y d e c u v => ih x y d e c u v)
        by_cases hz : its.toArray.size = its'.toArray.size
        · rw [t2]
          have ez : (its.toArray.size == its'.toArray.size) = true := by rw [hz]; exact beq_self_eq_true _
          have em : min its.toArray.size its'.toArray.size = its.toArray.size := by omega
          rw [ez, Bool.and_true, em]
          exact .lists e hl hl' hz t1
        · have ez : (its.toArray.size == its'.toArray.size) = false := by simpa using hz
          rw [t2, ez, Bool.and_false]
          exact .listsLen e hl hl' (by simpa using hz)
    · cases p1 with
      | nod h1 =>
        cases p2 with
        | nod h2 =>
          cases q1; cases q2
          rename_i a a'
          by_cases e : a = a'
          · subst e; exact .same
          · obtain ⟨_, hS, vs, kr, m⟩ := I.hok a _ (r.ex _ _ h1)
            obtain ⟨_, hS', vs', kr', m'⟩ := I.hok a' _ (r.ex _ _ h2)
            cases kr; cases kr'
            exact .dicts (e := fun _ => true) e hS hS' m m' fun k v y hm => by cases hm
    · exact .leaf fun A hu => (sc_rc I r hs p1 p2 q1 q2 (by omega)).2
end
/-- x == y of data; two empty dicts stand only inside -/
def dEq (d e : D) : Option Bool := match d, e with
  | .nod, _ => none
  | d, e => deq 50 d e
def rEqX (K : PySem.W.Frag) : R2 := fun x y H Q => ∃ (pn : List (Addr × Obj)) (w : Wd) (d e : D) (b : Bool), Rel K pn w ∧ w.H = H ∧ Rep K w.G x d ∧ Rep K w.G y e ∧ dEq d e = some b ∧ Q (.bl b) H
theorem op_eqX {X : Cx} (hu : X.A.units + 64 < cLine) : OpR X (compareOp .Eq) (rEqX X.K) := by
  intro pins s σ H x y v u Q I rx ry h
  obtain ⟨pn, w, d, e, b, r, rfl, p1, p2, hb, q⟩ := h
  have hd : deq 50 d e = some b := by
    unfold dEq at hb
    split at hb
    · cases hb
    · exact hb
  have nn : d ≠ .nod := by
    intro z; subst z
    unfold dEq at hb
    cases hb
  have fin : EP X pins σ Q (.bool b) s := ⟨.bl b, w.H, I, rfl, q⟩
  rcases deq_cases hd with ⟨m, xs, ys, hn, rfl, rfl, hs⟩ | ⟨m, xs, ys, hn, rfl, rfl, hs⟩ | ⟨rfl, rfl, rfl⟩ | hs
  · have hm : m = 49 := by omega
    subst hm
    obtain ⟨a, vs, its, rfl, rfl, k1, k2, hl⟩ := rep_tup I r p1 rx
    obtain ⟨a', vs', its', rfl, rfl, k1', k2', hl'⟩ := rep_tup I r p2 ry
    obtain ⟨t1, t2⟩ := items_tree hs k1 k1' k2 k2' (fun x y d e c u v => deq_tree I r 49 x y d e c u v)
    exact PySem.W.eq_tuplesT hl hl' t1 (by omega) (by rw [← t2]; exact fin)
  · have hm : m = 49 := by omega
    subst hm
    obtain ⟨a, vs, its, rfl, rfl, k1, k2, hl⟩ := rep_lst I r p1 rx
    obtain ⟨a', vs', its', rfl, rfl, k1', k2', hl'⟩ := rep_lst I r p2 ry
    obtain ⟨t1, t2⟩ := items_tree hs k1 k1' k2 k2' (fun x y d e c u v => deq_tree I r 49 x y d e c u v)
    by_cases hz : its.toArray.size = its'.toArray.size
    · have ez : (its.toArray.size == its'.toArray.size) = true := by rw [hz]; exact beq_self_eq_true _
      have em : min its.toArray.size its'.toArray.size = its.toArray.size := by omega
      rw [ez, Bool.and_true, em] at t2
      exact PySem.W.eq_listsT hl hl' hz t1 (by omega) (by rw [← t2]; exact fin)
    · have ez : (its.toArray.size == its'.toArray.size) = false := by simpa using hz
      rw [ez, Bool.and_false] at t2
      subst t2
      exact SeqAt.RcAt.lists_lengths hl hl' (by simpa using hz) (by omega) X.prog X.w X.xe _ fin
  · exact (nn rfl).elim
  · exact (sc_rc I r hs p1 p2 rx ry (by omega)).1 X.prog X.w X.xe _ fin
def fEq : D → D → Option D := fun d e => (dEq d e).map .bl
theorem k_eq {K : PySem.W.Frag} : R2Ok K (rEqX K) fEq := by
  intro pn w x y d e z Q r p1 p2 hz k
  unfold fEq at hz
  cases hb : dEq d e with
  | none => rw [hb] at hz; cases hz
  | some b =>
    rw [hb] at hz; cases hz
    exact ⟨pn, w, d, e, b, r, rfl, p1, p2, hb, k _ _ _ (.refl _) r (.bl _)⟩
end DL

namespace DL
open PySem PySem.Spec L2

/-! ### tests -/
def optB (o : Option Bool) : MT := fun s => match o with
  | some b => .ok b s
  | none => .stuck
def mTru (m : ME) : MT := bnd m fun d => optB (tru d)
def isBl : D → Option Bool
  | .bl b => some b
  | _ => none
def mBl (m : ME) : MT := bnd m fun d => optB (isBl d)
def mNotT (m : MT) : MT := bnd m fun b => ret (!b)
def mAndT (a b : MT) : MT := bnd a fun x => if x then b else ret false
def mOrT (a b : MT) : MT := bnd a fun x => if x then ret true else b
def mNot (m : ME) : ME := bnd m fun d => bnd (optB (tru d)) fun b => ret (.bl (!b))
def mAnd (a b : ME) : ME := bnd a fun d => bnd (optB (tru d)) fun x => if x then b else ret d
def mOr (a b : ME) : ME := bnd a fun d => bnd (optB (tru d)) fun x => if x then ret d else b
def mIf (t : MT) (a b : ME) : ME := bnd t fun x => if x then a else b
theorem goOn {α β : Type} {K : PySem.W.Frag} {pn : List (Addr × Obj)} {W : WX} {A : Wd → β → α → Prop} {w : Wd} {Q : β → Hp → Prop} {m : S → R α} (r : Rel K pn w) (h : okG K pn W A w Q (m w.s)) : tG K pn W A m w.σ w.H Q := ⟨w, rfl, rfl, r, h⟩
section
variable {X : Cx} {W : WX} {a b c : Expr} {ma mb mc : ME} {ta tb : MT} {pos : Pos}
theorem optB_run {K : PySem.W.Frag} {pn : List (Addr × Obj)} {δ γ : Type} {B : Wd → δ → γ → Prop} {w : Wd} {Q : δ → Hp → Prop} {o : Option Bool} {k : Bool → S → R γ} (h : okG K pn W B w Q (bnd (optB o) k w.s)) : ∃ b, o = some b ∧ okG K pn W B w Q (k b w.s) := by
  cases o with
  | none => exact h.elim
  | some b => exact ⟨b, rfl, h⟩
theorem optB_fin {K : PySem.W.Frag} {pn : List (Addr × Obj)} {w : Wd} {Q : Bool → Hp → Prop} {o : Option Bool} (h : okG K pn W AB w Q (optB o w.s)) (r : Rel K pn w) : ∃ b, o = some b ∧ Q b w.H := by
  cases o with
  | none => exact h.elim
  | some b => exact ⟨b, rfl, h w.G b w.H (.refl _) r rfl⟩
theorem jt_truth (h : JE X W a ma) (he : ∀ whole, isTrue a X.env whole = (do let v ← whole; standAt a.pos; holding [v] (truthy v)) := by intro _; rfl) : JT X W a (mTru ma) := by
  refine PT.imp (pt_truth h he) fun σ H Q h => ?_
  obtain ⟨w, rfl, rfl, r, h⟩ := h
  refine run r h fun d s' G' v H' g r' p h' => ?_
  obtain ⟨k, e, q⟩ := optB_fin h' r'
  exact ⟨k, tru_of r' p e, q⟩
theorem jt_cmp {op : CmpOp} {rr : R2} {f : D → D → Option D} (ho : OpR X (compareOp op) rr) (hr : R2Ok X.K rr f) (ha : JE X W a ma) (hb : JE X W b mb) (hm : behindInMarks op b = false) : JT X W (.Compare a [op] [b] pos) (mBl (mBin f ma mb)) := by
  refine PT.imp (pt_cmpR ho ha hb hm) fun σ H Q h => ?_
  obtain ⟨w, rfl, rfl, r, h⟩ := h
  refine r2_run hr ?_
  refine run r h fun d s' G' v H' g r' p h' => ?_
  obtain ⟨k, e, q⟩ := optB_fin h' r'
  unfold isBl at e
  split at e
  · cases e
    cases p
    exact ⟨_, rfl, q⟩
  · cases e
theorem jt_not (h : JT X W a ta) : JT X W (.UnaryOp .Not a pos) (mNotT ta) := by
  refine PT.imp (pt_not h) fun σ H Q h => ?_
  obtain ⟨w, rfl, rfl, r, h⟩ := h
  refine run r h fun d s' G' v H' g r' p h' => ?_
  cases p
  exact fin r' h' rfl
theorem JW.jt {e : Expr} {m : MT} (h : JW X W e m) : JT X W e m := PW.pt h
theorem jw_and1 (h : JT X W a ta) : JW X W (.BoolOp .And [a] pos) ta := pw_and1 h
theorem jw_or1 (h : JT X W a ta) : JW X W (.BoolOp .Or [a] pos) ta := pw_or1 h
theorem jw_and {rest : List Expr} (h1 : JT X W a ta) (h2 : JW X W (.BoolOp .And (b :: rest) pos) tb) : JW X W (.BoolOp .And (a :: b :: rest) pos) (mAndT ta tb) := by
  refine PW.imp (pw_and h1 h2) fun σ H Q h => ?_
  obtain ⟨w, rfl, rfl, r, h⟩ := h
  refine run r h fun d s' G' v H' g r' p h' => ?_
  cases p
  cases d with
  | true => exact goOn (w := { w with G := G', H := H', s := s' }) r' h'
  | false => exact fin r' h' rfl
theorem jw_or {rest : List Expr} (h1 : JT X W a ta) (h2 : JW X W (.BoolOp .Or (b :: rest) pos) tb) : JW X W (.BoolOp .Or (a :: b :: rest) pos) (mOrT ta tb) := by
  refine PW.imp (pw_or h1 h2) fun σ H Q h => ?_
  obtain ⟨w, rfl, rfl, r, h⟩ := h
  refine run r h fun d s' G' v H' g r' p h' => ?_
  cases p
  cases d with
  | true => exact fin r' h' rfl
  | false => exact goOn (w := { w with G := G', H := H', s := s' }) r' h'
theorem je_not (h : JE X W a ma) : JE X W (.UnaryOp .Not a pos) (mNot ma) := by
  refine PE.imp (pe_notT h) fun σ H Q h => ?_
  obtain ⟨w, rfl, rfl, r, h⟩ := h
  refine run r h fun d s' G' v H' g r' p h' => ?_
  obtain ⟨k, e, q⟩ := optB_run (w := { w with G := G', H := H', s := s' }) h'
  exact ⟨k, tru_of r' p e, fin r' q (.bl _)⟩
theorem je_one {op} (h : JE X W a ma) : JE X W (.BoolOp op [a] pos) ma := pe_one h
theorem je_and {rest : List Expr} (h1 : JE X W a ma) (h2 : JE X W (.BoolOp .And (b :: rest) pos) mb) : JE X W (.BoolOp .And (a :: b :: rest) pos) (mAnd ma mb) := by
  refine PE.imp (pe_andT h1 h2) fun σ H Q h => ?_
  obtain ⟨w, rfl, rfl, r, h⟩ := h
  refine run r h fun d s' G' v H' g r' p h' => ?_
  obtain ⟨k, e, q⟩ := optB_run (w := { w with G := G', H := H', s := s' }) h'
  refine ⟨k, tru_of r' p e, ?_⟩
  cases k with
  | true => exact goOn (w := { w with G := G', H := H', s := s' }) r' q
  | false => exact fin r' q p
theorem je_or {rest : List Expr} (h1 : JE X W a ma) (h2 : JE X W (.BoolOp .Or (b :: rest) pos) mb) : JE X W (.BoolOp .Or (a :: b :: rest) pos) (mOr ma mb) := by
  refine PE.imp (pe_orT h1 h2) fun σ H Q h => ?_
  obtain ⟨w, rfl, rfl, r, h⟩ := h
  refine run r h fun d s' G' v H' g r' p h' => ?_
  obtain ⟨k, e, q⟩ := optB_run (w := { w with G := G', H := H', s := s' }) h'
  refine ⟨k, tru_of r' p e, ?_⟩
  cases k with
  | true => exact fin r' q p
  | false => exact goOn (w := { w with G := G', H := H', s := s' }) r' q
theorem je_if (h : JT X W c ta) (h1 : JE X W a ma) (h2 : JE X W b mb) : JE X W (.IfExp c a b pos) (mIf ta ma mb) := by
  refine PE.imp (pe_ifExp h h1 h2) fun σ H Q h => ?_
  obtain ⟨w, rfl, rfl, r, h⟩ := h
  refine run r h fun d s' G' v H' g r' p h' => ?_
  cases p
  cases d with
  | true => exact goOn (w := { w with G := G', H := H', s := s' }) r' h'
  | false => exact goOn (w := { w with G := G', H := H', s := s' }) r' h'
/-- a if t else b, both new lists -/
def mIfF (t : MT) (a b : MA) : MA := bnd t fun x => if x then a else b
theorem jf_if {ma mb : MA} (h : JT X W c ta) (h1 : JF X W a ma) (h2 : JF X W b mb) : JF X W (.IfExp c a b pos) (mIfF ta ma mb) := by
  refine PE.imp (pe_ifExp h h1 h2) fun σ H Q h => ?_
  obtain ⟨w, rfl, rfl, r, h⟩ := h
  refine run r h fun d s' G' v H' g r' p h' => ?_
  cases p
  cases d with
  | true => exact goOn (w := { w with G := G', H := H', s := s' }) r' h'
  | false => exact goOn (w := { w with G := G', H := H', s := s' }) r' h'
/-- -x -/
def mUn (f : D → Option D) (m : ME) : ME := bnd m fun d => lift (f d)
def iNeg : D → Option D
  | .int i => some (.int (-i))
  | _ => none
theorem je_neg (h : JE X W a ma) : JE X W (.UnaryOp .USub a pos) (mUn iNeg ma) := by
  refine PE.imp (pe_un un_neg h) fun σ H Q h => ?_
  obtain ⟨w, rfl, rfl, r, h⟩ := h
  refine run r h fun d s' G' v H' g r' p h' => ?_
  unfold iNeg at h'
  split at h'
  · cases p
    exact ⟨_, rfl, fin r' h' (.int _)⟩
  · exact h'.elim
/-- is None -/
def isNon : D → Bool
  | .non => true
  | _ => false
def fIsN : D → D → Option D
  | d, .non => some (.bl (isNon d))
  | _, _ => none
def fNotN : D → D → Option D
  | d, .non => some (.bl (!isNon d))
  | _, _ => none
theorem rep_non {K : PySem.W.Frag} {G : Gh} {v : V} {d : D} (p : Rep K G v d) : decide (v = .non) = isNon d := by
  cases p <;> simp [isNon]
theorem k_isN {K : PySem.W.Frag} : R2Ok K (fun x y H Q => y = .non ∧ Q (.bl (decide (x = .non))) H) fIsN := by
  intro pn w x y d e z Q r p1 p2 hz k
  unfold fIsN at hz
  split at hz
  · cases hz; cases p2
    refine ⟨rfl, ?_⟩
    rw [rep_non p1]
    exact k _ _ _ (.refl _) r (.bl _)
  · cases hz
theorem k_notN {K : PySem.W.Frag} : R2Ok K (fun x y H Q => y = .non ∧ Q (.bl (!decide (x = .non))) H) fNotN := by
  intro pn w x y d e z Q r p1 p2 hz k
  unfold fNotN at hz
  split at hz
  · cases hz; cases p2
    refine ⟨rfl, ?_⟩
    rw [rep_non p1]
    exact k _ _ _ (.refl _) r (.bl _)
  · cases hz
/-- a op b op' c -/
def mChain (f f' : D → D → Option D) (a b c : ME) : ME := bnd a fun x => bnd b fun y => bnd (lift (f x y)) fun z => bnd (optB (isBl z)) fun k => if k then bnd c fun v => lift (f' y v) else ret (.bl false)
theorem chain_run {rr rr' : R2} {f f' : D → D → Option D} {σ : L2.St} {H : Hp} {Q : VK} (hr : R2Ok X.K rr f) (hr' : R2Ok X.K rr' f') (h : tG X.K X.pn W (AR X.K) (mChain f f' ma mb mc) σ H Q) :
    tChain rr rr' (tG X.K X.pn W (AR X.K) ma) (tG X.K X.pn W (AR X.K) mb) (tG X.K X.pn W (AR X.K) mc) σ H Q := by
  obtain ⟨w, rfl, rfl, r, h⟩ := h
  refine run r h fun d s' G' v H' g r' p h' => ?_
  refine run r' h' fun e s2 G2 u H2 g2 r2 p2 h2 => ?_
  cases hz : f d e with
  | none => rw [hz] at h2; exact h2.elim
  | some z =>
    rw [hz] at h2
    refine hr X.pn _ v u d e z _ r2 (p.mono g2) p2 hz fun G3 y H3 g3 r3 p3 => ?_
    cases hk : isBl z with
    | none => rw [show bnd (lift (some z)) _ s2 = _ from rfl] at h2; simp only [bnd, lift, ret, hk, optB] at h2; exact h2.elim
    | some k =>
      simp only [bnd, lift, ret, hk, optB] at h2
      unfold isBl at hk
      split at hk
      · cases hk
        cases p3
        refine ⟨_, rfl, ?_⟩
        cases k with
        | false => exact h2 G3 _ H3 g3 r3 (.bl _)
        | true =>
          simp only [if_true] at h2
          refine run (w := { w with G := G3, H := H3, s := s2 }) r3 (okG.up (w := { w with G := G2, H := H2, s := s2 }) h2 g3) fun e4 s4 G4 u4 H4 g4 r4 p4 h4 => ?_
          cases hz4 : f' e e4 with
          | none => rw [hz4] at h4; exact h4.elim
          | some z4 =>
            rw [hz4] at h4
            exact hr' X.pn _ u u4 e e4 z4 Q r4 (p2.mono (g3.trans g4)) p4 hz4 fun G5 y5 H5 g5 r5 p5 => h4 G5 y5 H5 g5 r5 p5
      · cases hk
theorem je_chain {op op' : CmpOp} {rr rr' : R2} {f f' : D → D → Option D} (ho : OpR X (compareOp op) rr) (hr : R2Ok X.K rr f) (ho' : OpR X (compareOp op') rr') (hr' : R2Ok X.K rr' f') (ha : JE X W a ma) (hb : JE X W b mb) (hc : JE X W c mc)
    (hm : lastMarks [op, op'] [b, c] = false := by with_unfolding_all rfl) : JE X W (.Compare a [op, op'] [b, c] pos) (mChain f f' ma mb mc) :=
  PE.imp (pe_chain ho ho' ha hb hc hm) fun _ _ _ h => chain_run hr hr' h
theorem jt_chain {op op' : CmpOp} {rr rr' : R2} {f f' : D → D → Option D} (ho : OpR X (compareOp op) rr) (hr : R2Ok X.K rr f) (ho' : OpR X (compareOp op') rr') (hr' : R2Ok X.K rr' f') (ha : JE X W a ma) (hb : JE X W b mb) (hc : JE X W c mc)
    (hm : lastMarks [op, op'] [b, c] = false := by with_unfolding_all rfl) : JT X W (.Compare a [op, op'] [b, c] pos) (mBl (mChain f f' ma mb mc)) := by
  refine PT.imp (pt_chain ho ho' ha hb hc hm) fun σ H Q h => ?_
  obtain ⟨w, rfl, rfl, r, h⟩ := h
  refine chain_run hr hr' ?_
  refine run r h fun d s' G' v H' g r' p h' => ?_
  obtain ⟨k, e, q⟩ := optB_fin h' r'
  unfold isBl at e
  split at e
  · cases e
    cases p
    exact ⟨_, rfl, q⟩
  · cases e
end
end DL

namespace DL
open PySem PySem.Spec L2

/-! ### statements -/
section
variable {α β : Type} {K : PySem.W.Frag} {pn : List (Addr × Obj)} {W : WX}
theorem okS.up {w : Wd} {D : Ends} {r : R Fl} (h : okS K pn W w D r) {G' : Gh} {σ' : L2.St} {H' : Hp} {s' : S} (e : w.G.le G') : okS K pn W { w with G := G', σ := σ', H := H', s := s' } D r := by
  cases r with
  | ok fl s2 => exact fun G2 σ2 H2 e2 r2 => h G2 σ2 H2 (e.trans e2) r2
  | exc x s2 => exact fun G2 σ2 c d H2 e2 r2 a2 => h G2 σ2 c d H2 (e.trans e2) r2 a2
  | stuck => exact h
theorem runS {A : Wd → β → α → Prop} {m : S → R α} {k : α → S → R Fl} {w : Wd} {D : Ends} {Q1 : β → Hp → Prop} (r : Rel K pn w) (h : okS K pn W w D (bnd m k w.s))
    (hk : ∀ a s' G' b H', w.G.le G' → Rel K pn { w with G := G', H := H', s := s' } → A { w with G := G', H := H', s := s' } b a → okS K pn W { w with G := G', H := H', s := s' } D (k a s') → Q1 b H') : tG K pn W A m w.σ w.H Q1 := by
  refine ⟨w, rfl, rfl, r, ?_⟩
  unfold bnd at h
  cases hm : m w.s with
  | ok a s' =>
    rw [hm] at h
    intro G' b H' e r' ha
    exact hk a s' G' b H' e r' ha (okS.up (σ' := w.σ) h e)
  | exc x s' =>
    rw [hm] at h
    exact fun G' c d H' e r' ha => h G' w.σ c d H' e r' ha
  | stuck =>
    rw [hm] at h
    exact h
theorem goS {w : Wd} {D : Ends} {m : MS} (r : Rel K pn w) (h : okS K pn W w D (m w.s)) : tS K pn W m D w.σ w.H := ⟨w, rfl, rfl, r, h⟩
/-- m alone, its end known -/
theorem runM {w : Wd} {D D' : Ends} {m : MS} (r : Rel K pn w) (h : ∀ x, m w.s = x → okS K pn W w D' x) : tS K pn W m D' w.σ w.H := ⟨w, rfl, rfl, r, h _ rfl⟩
end
def mPass : MS := ret .nx
def mExpr (m : ME) : MS := bnd m fun _ => ret .nx
def mExprF (m : MA) : MS := bnd m fun _ => ret .nx
def mSet (i : Nat) (m : ME) : MS := bnd m fun d s => .ok .nx (s.put i (.imm d))
def mOwn (i : Nat) (m : MA) : MS := bnd m fun ds s => .ok .nx (s.put i (.own ds))
def mRet (m : ME) : MS := bnd m fun d => ret (.rt d)
def mIfS (t : MT) (a b : MS) : MS := bnd t fun x => if x then a else b
def mSeq (a b : MS) : MS := fun s => match a s with
  | .ok .nx s' => b s'
  | .ok fl s' => .ok fl s'
  | .exc x s' => .exc x s'
  | .stuck => .stuck
section
variable {X : Cx} {W : WX} {e : Expr} {m : ME} {pos : Pos} {st : Stmt} {rest : List Stmt} {ms ms' : MS}
theorem jss_nil : JSs X W [] mPass := by
  refine PSs.imp pss_nil fun D σ H h => ?_
  obtain ⟨w, rfl, rfl, r, h⟩ := h
  exact h w.G w.σ w.H (.refl _) r
theorem jss_cons (h1 : JS X W st ms) (h2 : JSs X W rest ms') : JSs X W (st :: rest) (mSeq ms ms') := by
  refine PSs.imp (pss_cons h1 h2) fun D σ H h => ?_
  obtain ⟨w, rfl, rfl, r, h⟩ := h
  refine ⟨w, rfl, rfl, r, ?_⟩
  unfold mSeq at h
  cases hm : ms w.s with
  | ok fl s' =>
    rw [hm] at h
    cases fl with
    | nx => exact fun G' σ' H' g r' => ⟨_, rfl, rfl, r', okS.up (w := w) h g⟩
    | bk => exact h
    | ct => exact h
    | rt d => exact h
  | exc x s' => rw [hm] at h; exact h
  | stuck => rw [hm] at h; exact h
theorem jss_one (h : JS X W st ms) : JSs X W [st] ms := pss_one h
theorem js_pass : JS X W (.Pass pos) mPass := by
  refine PS.imp ps_pass fun D σ H h => ?_
  obtain ⟨w, rfl, rfl, r, h⟩ := h
  exact h w.G w.σ w.H (.refl _) r
def mBreak : MS := ret .bk
def mCont : MS := ret .ct
theorem js_break : JS X W (.Break pos) mBreak := by
  refine PS.imp ps_break fun D σ H h => ?_
  obtain ⟨w, rfl, rfl, r, h⟩ := h
  exact h w.G w.σ w.H (.refl _) r
theorem js_cont : JS X W (.Continue pos) mCont := by
  refine PS.imp ps_continue fun D σ H h => ?_
  obtain ⟨w, rfl, rfl, r, h⟩ := h
  exact h w.G w.σ w.H (.refl _) r
theorem js_expr (h : JE X W e m) (hs : swapsWith e none pos.line X.env = pure false := by rfl) : JS X W (.Expr e pos) (mExpr m) := by
  refine PS.imp (ps_expr h hs) fun D σ H h => ?_
  obtain ⟨w, rfl, rfl, r, h⟩ := h
  refine runS r h fun d s' G' v H' g r' p h' => ?_
  exact h' G' w.σ H' (.refl _) r'
theorem js_set {i : Nat} {x : Str} {pos' : Pos} (hN : X.N.Nodup) (hi : X.N[i]? = some x) (hx : Loc X.env.scope x) (h : JE X W e m) (hs : swapsWith e (some (.Name x pos')) pos.line X.env = pure false := by rfl) (hf : X.fn x = true ∨ X.env.scope.names.lookup x = some .local := by first | exact .inl rfl | exact .inr rfl | assumption) :
    JS X W (.Assign [.Name x pos'] e pos) (mSet i m) := by
  refine PS.imp (ps_set hN hi hx h hs hf) fun D σ H h => ?_
  obtain ⟨w, rfl, rfl, r, h⟩ := h
  refine runS r h fun d s' G' v H' g r' p h' => ?_
  exact h' G' _ H' (.refl _) (r'.set (i := i) p)
theorem js_own {i : Nat} {x : Str} {pos' : Pos} {m : MA} (hN : X.N.Nodup) (hi : X.N[i]? = some x) (hx : Loc X.env.scope x) (h : JF X W e m) (hs : swapsWith e (some (.Name x pos')) pos.line X.env = pure false := by rfl) (hf : X.fn x = true ∨ X.env.scope.names.lookup x = some .local := by first | exact .inl rfl | exact .inr rfl | assumption) :
    JS X W (.Assign [.Name x pos'] e pos) (mOwn i m) := by
  refine PS.imp (ps_set hN hi hx h hs hf) fun D σ H h => ?_
  obtain ⟨w, rfl, rfl, r, h⟩ := h
  refine runS r h fun d s' G' v H' g r' p h' => ?_
  exact h' G' _ H' (.refl _) (r'.setOwn (i := i) p)
theorem js_ret (h : JE X W e m) : JS X W (.Return (some e) pos) (mRet m) := by
  refine PS.imp (ps_ret h) fun D σ H h => ?_
  obtain ⟨w, rfl, rfl, r, h⟩ := h
  refine runS r h fun d s' G' v H' g r' p h' => ?_
  exact h' G' w.σ H' (.refl _) r' v p
def mRetN : MS := ret (.rt .non)
theorem js_retN : JS X W (.Return none pos) mRetN := by
  refine PS.imp ps_retN fun D σ H h => ?_
  obtain ⟨w, rfl, rfl, r, h⟩ := h
  exact h w.G w.σ w.H (.refl _) r _ .non
theorem js_if {c : Expr} {a b : List Stmt} {t : MT} (hc : JT X W c t) (ha : JSs X W a ms) (hb : JSs X W b ms') : JS X W (.If c a b pos) (mIfS t ms ms') := by
  refine PS.imp (ps_if hc ha hb) fun D σ H h => ?_
  obtain ⟨w, rfl, rfl, r, h⟩ := h
  refine runS r h fun d s' G' v H' g r' p h' => ?_
  cases p
  cases d with
  | true => exact goS (w := { w with G := G', H := H', s := s' }) r' h'
  | false => exact goS (w := { w with G := G', H := H', s := s' }) r' h'
end

/-! ### targets: a name, a tuple of targets -/
abbrev MG := D → Option (List (Nat × D))
def S.puts (s : S) : List (Nat × D) → S
  | [] => s
  | (i, d) :: l => (s.put i (.imm d)).puts l
def upds (σ : L2.St) : List (Nat × V) → L2.St
  | [] => σ
  | (i, v) :: l => upds (σ.set i (some v)) l
def RepU (K : PySem.W.Frag) (G : Gh) : List (Nat × V) → List (Nat × D) → Prop := Paired fun p q => p.1 = q.1 ∧ Rep K G p.2 q.2
theorem Rel.sets {K : PySem.W.Frag} {pn : List (Addr × Obj)} : ∀ {lv : List (Nat × V)} {l : List (Nat × D)} {w : Wd}, Rel K pn w → RepU K w.G lv l → Rel K pn { w with σ := upds w.σ lv, s := w.s.puts l }
  | _, _, _, r, .nil => r
  | _, _, w, r, .cons (a := p) (b := q) h t => by
    obtain ⟨i, v⟩ := p
    obtain ⟨j, d⟩ := q
    obtain ⟨e, h⟩ := h
    cases e
    exact Rel.sets (w := { w with σ := w.σ.set i (some v), s := w.s.put i (.imm d) }) (r.set h) t
theorem wipe_upds {vs : List Nat} : ∀ {lv : List (Nat × V)} {σ : L2.St}, (∀ p ∈ lv, p.1 ∈ vs) → wipe (upds σ lv) vs = wipe σ vs
  | [], _, _ => rfl
  | (i, v) :: l, σ, h => by
    have e : wipe (upds (σ.set i (some v)) l) vs = wipe (σ.set i (some v)) vs := wipe_upds (fun p hp => h p (List.mem_cons_of_mem _ hp))
    show wipe (upds (σ.set i (some v)) l) vs = wipe σ vs
    rw [e]
    have hi : i ∈ vs := h (i, v) List.mem_cons_self
    clear e h
    induction vs with
    | nil => cases hi
    | cons a r ih =>
      unfold wipe
      by_cases hr : i ∈ r
      · rw [ih hr]
      · have ea : i = a := by
          rcases List.mem_cons.mp hi with z | z
          · exact z
          · exact absurd z hr
        subst ea
        have : ∀ (vs : List Nat) (σ : L2.St) (x : Option V), i ∉ vs → wipe (σ.set i x) vs = (wipe σ vs).set i x := by
          intro vs
          induction vs with
          | nil => intro σ x _; rfl
          | cons b q ihq =>
            intro σ x hn
            simp only [List.mem_cons, not_or] at hn
            unfold wipe
            rw [ihq σ x hn.2, List.set_comm _ _ hn.1]
        rw [this r σ _ hr, List.set_set]
/-- the target's reading: the slots that it stores -/
def tTg (K : PySem.W.Frag) (mg : MG) : TG := fun v σ H Q => ∃ (pn : List (Addr × Obj)) (w : Wd) (d : D) (l : List (Nat × D)), w.H = H ∧ Rel K pn w ∧ Rep K w.G v d ∧ mg d = some l ∧ ∀ lv, RepU K w.G lv l → Q (upds σ lv) H
structure JG (X : Cx) (tg : Expr) (mg : MG) (ix : List Nat) : Prop where
  pg : PG X tg (tTg X.K mg)
  ix : ∀ d l, mg d = some l → ∀ p ∈ l, p.1 ∈ ix
def gNm (i : Nat) : MG := fun d => some [(i, d)]
theorem PG.imp {X : Cx} {e : Expr} {t t' : TG} (h : PG X e t) (i : ∀ v σ H Q, t' v σ H Q → t v σ H Q) : PG X e t' := ⟨fun pins s σ H v u Q I r q => h.run pins s σ H v u Q I r (i _ _ _ _ q)⟩
theorem PGs.imp {X : Cx} {e : List Expr} {t t' : TGs} (h : PGs X e t) (i : ∀ v σ H Q, t' v σ H Q → t v σ H Q) : PGs X e t' := ⟨fun pins s σ H v u Q I r q => h.run pins s σ H v u Q I r (i _ _ _ _ q)⟩
section
variable {X : Cx} {pos : Pos}
theorem jg_name {i : Nat} {x : Str} (hN : X.N.Nodup) (hi : X.N[i]? = some x) (hx : Loc X.env.scope x) (hf : X.fn x = true ∨ X.env.scope.names.lookup x = some .local := by first | exact .inl rfl | exact .inr rfl | assumption) : JG X (.Name x pos) (gNm i) [i] := by
  refine ⟨PG.imp (pg_name hN hi hx hf) fun v σ H Q h => ?_, fun d l h p hp => ?_⟩
  · obtain ⟨pn, w, d, l, rfl, r, p, e, q⟩ := h
    cases e
    exact q [(i, v)] (.cons ⟨rfl, p⟩ .nil)
  · cases h
    simp at hp
    simp [hp]
abbrev MGs := List D → Option (List (Nat × D))
def tTgs (K : PySem.W.Frag) (mg : MGs) : TGs := fun vs σ H Q => ∃ (pn : List (Addr × Obj)) (w : Wd) (ds : List D) (l : List (Nat × D)), w.H = H ∧ Rel K pn w ∧ Reps K w.G vs ds ∧ mg ds = some l ∧ ∀ lv, RepU K w.G lv l → Q (upds σ lv) H
structure JGs (X : Cx) (tg : List Expr) (mg : MGs) (ix : List Nat) : Prop where
  pg : PGs X tg (tTgs X.K mg)
  ix : ∀ d l, mg d = some l → ∀ p ∈ l, p.1 ∈ ix
def gsNil : MGs
  | [] => some []
  | _ => none
def gsCons (g : MG) (gs : MGs) : MGs
  | d :: ds => match g d, gs ds with
    | some l, some l' => some (l ++ l')
    | _, _ => none
  | [] => none
theorem jgs_nil : JGs X [] gsNil [] := by
  refine ⟨PGs.imp pgs_nil fun v σ H Q h => ?_, fun d l h p hp => ?_⟩
  · obtain ⟨pn, w, ds, l, rfl, r, p, e, q⟩ := h
    unfold gsNil at e
    split at e
    · cases p; cases e
      exact ⟨rfl, q [] .nil⟩
    · cases e
  · unfold gsNil at h
    split at h
    · cases h; cases hp
    · cases h
theorem upds_append : ∀ (l l' : List (Nat × V)) (σ : L2.St), upds σ (l ++ l') = upds (upds σ l) l'
  | [], _, _ => rfl
  | (i, v) :: l, l', σ => upds_append l l' (σ.set i (some v))
theorem paired_append {α β : Type} {F : α → β → Prop} : ∀ {a : List α} {b : List β} {c : List α} {d : List β}, Paired F a b → Paired F c d → Paired F (a ++ c) (b ++ d)
  | _, _, _, _, .nil, h => h
  | _, _, _, _, .cons x t, h => .cons x (paired_append t h)
theorem jgs_cons {e : Expr} {es : List Expr} {g : MG} {gs : MGs} {ix ix' : List Nat} (h1 : JG X e g ix) (h2 : JGs X es gs ix') (hs : (assignEach (e :: es) X.env).map (·.2) = assign e X.env :: (assignEach es X.env).map (·.2) := by rfl) : JGs X (e :: es) (gsCons g gs) (ix ++ ix') := by
  refine ⟨PGs.imp (pgs_cons h1.pg h2.pg hs) fun v σ H Q h => ?_, fun d l h p hp => ?_⟩
  · obtain ⟨pn, w, ds, l, rfl, r, p, e, q⟩ := h
    cases p with
    | nil => cases e
    | cons p ps =>
      rename_i v vs d ds
      unfold gsCons at e
      cases h1 : g d with
      | none => simp [h1] at e
      | some l1 =>
        cases h2 : gs ds with
        | none => simp [h1, h2] at e
        | some l2 =>
          simp [h1, h2] at e
          subst e
          refine ⟨v, vs, rfl, pn, w, d, l1, rfl, r, p, h1, fun lv hv => ?_⟩
          refine ⟨pn, w, ds, l2, rfl, r, ps, h2, fun lv' hv' => ?_⟩
          rw [← upds_append]
          exact q _ (paired_append hv hv')
  · cases d with
    | nil => cases h
    | cons d ds =>
      unfold gsCons at h
      cases e1 : g d with
      | none => simp [e1] at h
      | some l1 =>
        cases e2 : gs ds with
        | none => simp [e1, e2] at h
        | some l2 =>
          simp [e1, e2] at h
          subst h
          rcases List.mem_append.mp hp with z | z
          · exact List.mem_append_left _ (h1.ix d l1 e1 p z)
          · exact List.mem_append_right _ (h2.ix ds l2 e2 p z)
def gTp (n : Nat) (gs : MGs) : MG
  | .tup ds => if ds.length = n then gs ds else none
  | .kt ds => if ds.length = n then gs ds else none
  | _ => none
theorem jg_tup {es : List Expr} {k : Nat} {gs : MGs} {ix : List Nat} {n : Nat} (hc : X.calm = true) (h : JGs X es gs ix) (hn : (assignEach es X.env).length = n := by rfl) (hst : (assignEach es X.env).findIdx? (·.1) = none := by rfl) : JG X (.Tuple es k pos) (gTp n gs) ix := by
  refine ⟨PG.imp (pg_tup hc h.pg hn hst) fun v σ H Q h => ?_, fun d l e p hp => ?_⟩
  · obtain ⟨pn, w, d, l, rfl, r, p, e, q⟩ := h
    unfold gTp at e
    split at e
    · rename_i ds
      cases p with
      | tup hs rs =>
        split at e
        · rename_i hl
          exact ⟨_, _, rfl, tqT r.ex hs, rs.length.trans hl, pn, w, ds, l, rfl, r, rs, e, q⟩
        · cases e
    · rename_i ds
      cases p with
      | kt hs rs =>
        split at e
        · rename_i hl
          exact ⟨_, _, rfl, sqT_mono r.ex hs, rs.length.trans hl, pn, w, ds, l, rfl, r, rs, e, q⟩
        · cases e
    · cases e
  · unfold gTp at e
    split at e
    · split at e
      · exact h.ix _ _ e p hp
      · cases e
    · split at e
      · exact h.ix _ _ e p hp
      · cases e
    · cases e
/-- target = value, the target a tuple of names -/
def mAsg (g : MG) (m : ME) : MS := bnd m fun d s => match g d with
  | some l => .ok .nx (s.puts l)
  | none => .stuck
theorem js_asg {tg e : Expr} {W : WX} {m : ME} {g : MG} {ix : List Nat} (he : JE X W e m) (hg : JG X tg g ix) (hs : swapsWithSole [tg] e pos.line X.env = pure false := by rfl) (hw : swappedStores [tg] e X.env = pure none := by rfl)
    (h1 : (assignEach [tg] X.env).map (·.2) = [assign tg X.env] := by rfl) : JS X W (.Assign [tg] e pos) (mAsg g m) := by
  refine PS.imp (ps_asg he hg.pg hs hw h1) fun D σ H h => ?_
  obtain ⟨w, rfl, rfl, r, h⟩ := h
  refine runS r h fun d s' G' v H' g' r' p h' => ?_
  cases hl : g d with
  | none => rw [hl] at h'; exact h'.elim
  | some l =>
    rw [hl] at h'
    exact ⟨X.pn, { w with G := G', H := H', s := s' }, d, l, rfl, r', p, hl, fun lv hv => h' G' _ H' (.refl _) (Rel.sets r' hv)⟩
end

/-! ### what is walked -/
structure ItR (K : PySem.W.Frag) (J : It) (G : Gh) (ds : List D) : Prop where
  go : ∀ pn w, Rel K pn w → G.le w.G → ∀ i, i < ds.length → J.go i w.H
  yld : ∀ pn w, Rel K pn w → G.le w.G → ∀ (i : Nat) d x H', ds[i]? = some d → J.yld i w.H x H' → ∃ G', w.G.le G' ∧ Rel K pn { w with G := G', H := H' } ∧ Rep K G' x d
  stop : ∀ pn w, Rel K pn w → G.le w.G → ∀ i, ds.length ≤ i → J.stop i w.H
abbrev AI (K : PySem.W.Frag) : Wd → It → List D → Prop := fun w J ds => ItR K J w.G ds
def JI (X : Cx) (W : WX) (tg iter : Expr) (m : MA) : Prop := PI X tg iter (tG X.K X.pn W (AI X.K) m)
theorem PI.imp {X : Cx} {tg e : Expr} {t t' : TI} (h : PI X tg e t) (i : ∀ σ H Q, t' σ H Q → t σ H Q) : PI X tg e t' := ⟨fun pins s σ H R I q => h.run pins s σ H R I (i _ _ _ q)⟩
theorem PI.or {X : Cx} {tg e : Expr} {t t' : TI} (h : PI X tg e t) (h' : PI X tg e t') : PI X tg e (fun σ H R => t σ H R ∨ t' σ H R) := ⟨fun pins s σ H R I q => q.elim (h.run pins s σ H R I) (h'.run pins s σ H R I)⟩
/-- the items of a tuple, of a list -/
def itD : D → Option (List D)
  | .tup ds => some ds
  | .lst ds => some ds
  | .kl ds => some ds
  | .kt ds => some ds
  | _ => none
def mIt (m : ME) : MA := bnd m fun d s => match itD d with
  | some ds => .ok ds s
  | none => .stuck
section
variable {K : PySem.W.Frag} {G : Gh} {a : Addr} {vs : List V} {ds : List D}
theorem itl_r (h : SqL K G.F a vs) (rs : Reps K G vs ds) : ItR K (Itl K a) G ds where
  go := fun pn w r g i hi => by
    have hl : i < vs.length := by rw [rs.length]; exact hi
    exact ⟨vs, vs[i], sqL_mono (fun a o z => r.ex a o (g.f a o z)) h, List.getElem?_eq_getElem hl⟩
  yld := fun pn w r g i d x H' hd y => by
    obtain ⟨e, y⟩ := y
    subst e
    have q := y vs (sqL_mono (fun a o z => r.ex a o (g.f a o z)) h)
    obtain ⟨v, h1, h2⟩ := rs.get hd
    rw [q] at h1
    cases h1
    exact ⟨w.G, .refl _, r, h2.mono g⟩
  stop := fun pn w r g i hi => ⟨vs, sqL_mono (fun a o z => r.ex a o (g.f a o z)) h, by rw [rs.length]; exact hi⟩
theorem itt_r (h : SqT K G.F a vs) (rs : Reps K G vs ds) : ItR K (Itt K a) G ds where
  go := fun pn w r g i hi => by
    have hl : i < vs.length := by rw [rs.length]; exact hi
    exact ⟨vs, vs[i], sqT_mono (fun a o z => r.ex a o (g.f a o z)) h, List.getElem?_eq_getElem hl⟩
  yld := fun pn w r g i d x H' hd y => by
    obtain ⟨e, y⟩ := y
    subst e
    have q := y vs (sqT_mono (fun a o z => r.ex a o (g.f a o z)) h)
    obtain ⟨v, h1, h2⟩ := rs.get hd
    rw [q] at h1
    cases h1
    exact ⟨w.G, .refl _, r, h2.mono g⟩
  stop := fun pn w r g i hi => ⟨vs, sqT_mono (fun a o z => r.ex a o (g.f a o z)) h, by rw [rs.length]; exact hi⟩
/-- lo, lo + 1 .. -/
def intsD (lo : Int) (n : Nat) : List D := (List.range n).map fun (i : Nat) => .int (lo + i)
theorem itr_r {lo : Int} {n : Nat} : ItR K (Itr lo n) G (intsD lo n) where
  go := fun pn w r g i hi => by show i < n; simpa [intsD] using hi
  yld := fun pn w r g i d x H' hd y => by
    obtain ⟨e, y⟩ := y
    subst e y
    unfold intsD at hd
    rw [List.getElem?_map] at hd
    cases hr : (List.range n)[i]? with
    | none => rw [hr] at hd; cases hd
    | some j =>
      rw [hr] at hd
      have : j = i := by
        obtain ⟨hl, e⟩ := List.getElem?_eq_some_iff.mp hr
        rw [List.getElem_range] at e
        exact e.symm
      subst this
      cases hd
      exact ⟨w.G, .refl _, r, .int _⟩
  stop := fun pn w r g i hi => by show n ≤ i; simpa [intsD] using hi
end
section
variable {X : Cx} {W : WX} {tg e : Expr} {m : ME} {pos p : Pos}
theorem run' {α β γ δ : Type} {K : PySem.W.Frag} {pn : List (Addr × Obj)} {A : Wd → β → α → Prop} {B : Wd → δ → γ → Prop} {m : S → R α} {k : α → S → R γ} {w : Wd} {Q : δ → Hp → Prop} {Q1 : β → Hp → Prop} (r : Rel K pn w) (h : okG K pn W B w Q (bnd m k w.s))
    (hk : ∀ a s' G' b H', m w.s = .ok a s' → w.G.le G' → Rel K pn { w with G := G', H := H', s := s' } → A { w with G := G', H := H', s := s' } b a → okG K pn W B { w with G := G', H := H', s := s' } Q (k a s') → Q1 b H') : tG K pn W A m w.σ w.H Q1 := by
  refine ⟨w, rfl, rfl, r, ?_⟩
  unfold bnd at h
  cases hm : m w.s with
  | ok a s' =>
    rw [hm] at h
    intro G' b H' e r' ha
    exact hk a s' G' b H' hm e r' ha (h.up e)
  | exc x s' =>
    rw [hm] at h
    exact h
  | stuck =>
    rw [hm] at h
    exact h
def isTup : D → Bool
  | .tup _ => true
  | .kt _ => true
  | _ => false
theorem rep_sq {K : PySem.W.Frag} {G : Gh} {v : V} {d : D} {ds : List D} (p : Rep K G v d) (h : itD d = some ds) (ht : isTup d = false) : ∃ a vs, v = .ref a ∧ SqL K G.F a vs ∧ Reps K G vs ds := by
  cases p with
  | tup hs rs => cases ht
  | kt hs rs => cases ht
  | lst hs rs => cases h; exact ⟨_, _, rfl, SqL.of hs, rs⟩
  | kl hs rs => cases h; exact ⟨_, _, rfl, hs, rs⟩
  | _ => cases h
theorem rep_st {K : PySem.W.Frag} {G : Gh} {v : V} {d : D} {ds : List D} (p : Rep K G v d) (h : itD d = some ds) (ht : isTup d = true) : ∃ a vs, v = .ref a ∧ SqT K G.F a vs ∧ Reps K G vs ds := by
  cases p with
  | tup hs rs => cases h; exact ⟨_, _, rfl, SqT.of hs, rs⟩
  | kt hs rs => cases h; exact ⟨_, _, rfl, hs, rs⟩
  | _ => cases ht
theorem ji_seq (h : JE X W e m) : JI X W tg e (mIt m) := by
  refine PI.imp (PI.or (pi_list h) (pi_tup h)) fun σ H Q h => ?_
  obtain ⟨w, rfl, rfl, r, h⟩ := h
  by_cases hl : ∃ d s', m w.s = .ok d s' ∧ isTup d = true
  · obtain ⟨d0, s0, hm, ht⟩ := hl
    refine .inr (run' r h fun d s2 G' v H' hm2 g r' p h' => ?_)
    rw [hm] at hm2
    cases hm2
    cases hd : itD d0 with
    | none => rw [hd] at h'; exact h'.elim
    | some ds =>
      rw [hd] at h'
      obtain ⟨a, vs, rfl, hs, rs⟩ := rep_st p hd ht
      exact ⟨_, rfl, ⟨_, sqT_mono r'.ex hs⟩, fin r' h' (itt_r hs rs)⟩
  · refine .inl (run' r h fun d s2 G' v H' hm2 g r' p h' => ?_)
    cases hd : itD d with
    | none => rw [hd] at h'; exact h'.elim
    | some ds =>
      rw [hd] at h'
      have ht : isTup d = false := by
        cases q : isTup d with
        | false => rfl
        | true => exact (hl ⟨_, _, hm2, q⟩).elim
      obtain ⟨a, vs, rfl, hs, rs⟩ := rep_sq p hd ht
      exact ⟨_, rfl, ⟨_, sqL_mono r'.ex hs⟩, fin r' h' (itl_r hs rs)⟩
/-- a new list walked: nobody else holds it -/
theorem ji_new {m : MA} (h : JF X W e m) : JI X W tg e m := by
  refine PI.imp (pi_list h) fun σ H Q h => ?_
  obtain ⟨w, rfl, rfl, r, h⟩ := h
  have h2 : okG X.K X.pn W (AI X.K) w Q (bnd m (fun ds s => .ok ds s) w.s) := by
    unfold bnd
    cases hm : m w.s <;> (rw [hm] at h; exact h)
  refine run r h2 fun ds s2 G' v H' g r' p h' => ?_
  obtain ⟨G2, g2, r2, q⟩ := AF.rep r' p
  cases q with
  | lst hs rs => exact ⟨_, rfl, ⟨_, SqL.of (r2.ex _ _ hs)⟩, h' G2 _ H' g2 r2 (itl_r (SqL.of hs) rs)⟩
/-- range -/
def rng1 : List D → Option (List D)
  | [.int j] => if -(2 ^ 62) ≤ j ∧ j < 2 ^ 62 then some (intsD 0 j.toNat) else none
  | _ => none
def rng2 : List D → Option (List D)
  | [.int i, .int j] => if -(2 ^ 62) ≤ i ∧ i < 2 ^ 62 ∧ -(2 ^ 62) ≤ j ∧ j < 2 ^ 62 then some (intsD i (j - i).toNat) else none
  | _ => none
def mRng (f : List D → Option (List D)) (m : MA) : MA := bnd m fun ds s => match f ds with
  | some l => .ok l s
  | none => .stuck
theorem ji_range1 {a : Expr} {m : MA} (hg : Gl X "range") (hm : X.mg "range" = none) (ha : JA X W [a] m) (hs : starEach [a] X.env = [(false, eval a X.env)] := by rfl) : JI X W tg (.Call (.Name "range" p) [a] [] pos) (mRng rng1 m) := by
  refine PI.imp (pi_range1 hg hm ha.pa hs) fun σ H Q h => ?_
  obtain ⟨w, rfl, rfl, r, h⟩ := h
  refine run r h fun ds s2 G' vs H' g r' q h' => ?_
  cases hd : rng1 ds with
  | none => rw [hd] at h'; exact h'.elim
  | some l =>
    rw [hd] at h'
    unfold rng1 at hd
    split at hd
    · split at hd
      · rename_i hj
        cases hd
        cases q with
        | cons q1 q2 =>
          cases q1; cases q2
          exact ⟨_, rfl, hj.1, hj.2, fin r' h' itr_r⟩
      · cases hd
    · cases hd
theorem ji_range2 {a b : Expr} {m : MA} (hg : Gl X "range") (hm : X.mg "range" = none) (ha : JA X W [a, b] m) (hs : starEach [a, b] X.env = [(false, eval a X.env), (false, eval b X.env)] := by rfl) (hsb : starEach [b] X.env = [(false, eval b X.env)] := by rfl) : JI X W tg (.Call (.Name "range" p) [a, b] [] pos) (mRng rng2 m) := by
  refine PI.imp (pi_range2 hg hm ha.pa hs hsb) fun σ H Q h => ?_
  obtain ⟨w, rfl, rfl, r, h⟩ := h
  refine run r h fun ds s2 G' vs H' g r' q h' => ?_
  cases hd : rng2 ds with
  | none => rw [hd] at h'; exact h'.elim
  | some l =>
    rw [hd] at h'
    unfold rng2 at hd
    split at hd
    · split at hd
      · rename_i hj
        cases hd
        cases q with
        | cons q1 q2 =>
          cases q1
          cases q2 with
          | cons q2 q3 =>
            cases q2; cases q3
            exact ⟨_, _, rfl, hj, fin r' h' itr_r⟩
      · cases hd
    · cases hd
end
/-! ### for, while -/
def fo (g : MG) (b : MS) : List D → MS
  | [] => ret .nx
  | d :: ds => fun s => match g d with
    | none => .stuck
    | some l => match b (s.puts l) with
      | .ok .nx s2 => fo g b ds s2
      | .ok .ct s2 => fo g b ds s2
      | .ok .bk s2 => .ok .nx s2
      | .ok (.rt d) s2 => .ok (.rt d) s2
      | .exc x s2 => .exc x s2
      | .stuck => .stuck
def mFor (it : MA) (g : MG) (b : MS) : MS := bnd it fun ds => fo g b ds
def wh (t : MT) (b : MS) : Nat → MS
  | 0 => stk
  | n + 1 => bnd t fun c => if c then (fun s => match b s with
      | .ok .nx s2 => wh t b n s2
      | .ok .ct s2 => wh t b n s2
      | .ok .bk s2 => .ok .nx s2
      | .ok (.rt d) s2 => .ok (.rt d) s2
      | .exc x s2 => .exc x s2
      | .stuck => .stuck) else ret .nx
open Classical in
noncomputable def mWhile (t : MT) (b : MS) : MS := fun s => if h : ∃ n, wh t b n s ≠ .stuck then wh t b (Classical.choose h) s else .stuck
section
variable {X : Cx} {W : WX} {tg iter c : Expr} {body : List Stmt} {pos : Pos} {it : MA} {g : MG} {ix : List Nat} {b : MS} {t : MT}
theorem js_for (hp : PassesOwn (model X.prog X.w) X.A X.env X.xe) (hc : X.calm = true) (hi : JI X W tg iter it) (hg : JG X tg g ix) (hb : JSs X W body b) (hs : ∀ x, foldedSetIterable iter X.env x = pure x := by intro _; rfl) :
    JS X W (.For tg iter body [] pos) (mFor it g b) := by
  refine PS.imp (ps_for hp hc hi hg.pg hb hs) fun D σ H h => ?_
  obtain ⟨w, rfl, rfl, r, h⟩ := h
  refine runS r h fun ds s' G' J H' g' r' I h' => ?_
  refine ⟨fun i m σ H => m = ds.length - i ∧ i ≤ ds.length ∧ ∃ w2 : Wd, w2.σ = σ ∧ w2.H = H ∧ Rel X.K X.pn w2 ∧ G'.le w2.G ∧ okS X.K X.pn W w2 D (fo g b (ds.drop i) w2.s), ⟨_, rfl, Nat.zero_le _, { w with G := G', H := H', s := s' }, rfl, rfl, r', .refl _, h'⟩, ?_⟩
  rintro i m σ H ⟨rfl, hi, w2, rfl, rfl, r2, g2, h2⟩
  by_cases hlt : i < ds.length
  · have hd : ds[i]? = some ds[i] := List.getElem?_eq_getElem hlt
    have ed : ds.drop i = ds[i] :: ds.drop (i + 1) := List.drop_eq_getElem_cons hlt
    rw [ed] at h2
    refine .inr ⟨I.go _ _ r2 g2 i hlt, fun σ' H' => ∃ w3 : Wd, w3.σ = σ' ∧ w3.H = H' ∧ Rel X.K X.pn w3 ∧ G'.le w3.G ∧ okS X.K X.pn W w3 D (fo g b (ds.drop (i + 1)) w3.s), fun σ' H' hw => ⟨_, by omega, rfl, hlt, hw⟩, fun x H2 y => ?_⟩
    obtain ⟨G3, g3, r3, p3⟩ := I.yld _ _ r2 g2 i _ x H2 hd y
    unfold fo at h2
    cases hl : g ds[i] with
    | none => simp only [hl] at h2; exact h2.elim
    | some l =>
      simp only [hl] at h2
      refine ⟨X.pn, { w2 with G := G3, H := H2 }, ds[i], l, rfl, r3, p3, hl, fun lv hv => ?_⟩
      have r4 := Rel.sets r3 hv
      refine ⟨_, rfl, rfl, r4, ?_⟩
      show okS X.K X.pn W _ _ (b (w2.s.puts l))
      cases hbb : b (w2.s.puts l) with
      | ok fl s5 =>
        rw [hbb] at h2
        cases fl with
        | nx => exact fun G5 σ5 H5 g5 r5 => ⟨_, rfl, rfl, r5, (g2.trans g3).trans g5, okS.up (w := w2) h2 (g3.trans g5)⟩
        | ct => exact fun G5 σ5 H5 g5 r5 => ⟨_, rfl, rfl, r5, (g2.trans g3).trans g5, okS.up (w := w2) h2 (g3.trans g5)⟩
        | bk => exact fun G5 σ5 H5 g5 r5 => h2 G5 σ5 H5 (g3.trans g5) r5
        | rt d => exact fun G5 σ5 H5 g5 r5 v p => h2 G5 σ5 H5 (g3.trans g5) r5 v p
      | exc x s5 =>
        rw [hbb] at h2
        exact fun G5 σ5 c d H5 g5 r5 p => h2 G5 σ5 c d H5 (g3.trans g5) r5 p
      | stuck =>
        rw [hbb] at h2
        exact h2
  · have e : i = ds.length := by omega
    subst e
    rw [List.drop_length] at h2
    exact .inl ⟨I.stop _ _ r2 g2 _ (Nat.le_refl _), h2 w2.G w2.σ w2.H (.refl _) r2⟩
theorem js_while (hp : PassesOwn (model X.prog X.w) X.A X.env X.xe) (hc : JT X W c t) (hb : JSs X W body b) : JS X W (.While c body [] pos) (mWhile t b) := by
  refine PS.imp (ps_while hp hc hb) fun D σ H h => ?_
  obtain ⟨w, rfl, rfl, r, h⟩ := h
  unfold mWhile at h
  split at h
  · rename_i hx
    generalize Classical.choose hx = n at h
    refine ⟨fun m σ H => ∃ w2 : Wd, w2.σ = σ ∧ w2.H = H ∧ Rel X.K X.pn w2 ∧ okS X.K X.pn W w2 D (wh t b m w2.s), ⟨n, w, rfl, rfl, r, h⟩, ?_⟩
    rintro m σ H ⟨w2, rfl, rfl, r2, h2⟩
    cases m with
    | zero => exact h2.elim
    | succ m =>
      refine runS r2 h2 fun c2 s' G' v H' g r' p h' => ?_
      cases p
      cases c2 with
      | false =>
        simp only [Bool.false_eq_true, if_false] at h' ⊢
        exact h' G' _ H' (.refl _) r'
      | true =>
        simp only [if_true] at h' ⊢
        refine ⟨fun σ' H' => ∃ w3 : Wd, w3.σ = σ' ∧ w3.H = H' ∧ Rel X.K X.pn w3 ∧ okS X.K X.pn W w3 D (wh t b m w3.s), fun σ' H' hw => ⟨m, Nat.lt_succ_self _, hw⟩, ?_⟩
        refine ⟨{ w2 with G := G', H := H', s := s' }, rfl, rfl, r', ?_⟩
        show okS X.K X.pn W _ _ (b s')
        cases hbb : b s' with
        | ok fl s5 =>
          rw [hbb] at h'
          cases fl with
          | nx => exact fun G5 σ5 H5 g5 r5 => ⟨_, rfl, rfl, r5, okS.up (w := { w2 with G := G', H := H', s := s' }) h' g5⟩
          | ct => exact fun G5 σ5 H5 g5 r5 => ⟨_, rfl, rfl, r5, okS.up (w := { w2 with G := G', H := H', s := s' }) h' g5⟩
          | bk => exact fun G5 σ5 H5 g5 r5 => h' G5 σ5 H5 g5 r5
          | rt d => exact fun G5 σ5 H5 g5 r5 v p => h' G5 σ5 H5 g5 r5 v p
        | exc x s5 =>
          rw [hbb] at h'
          exact fun G5 σ5 c d H5 g5 r5 p => h' G5 σ5 c d H5 g5 r5 p
        | stuck =>
          rw [hbb] at h'
          exact h'
  · exact h.elim
end
/-! what mWhile is -/
theorem wh_mono {t : MT} {b : MS} : ∀ {n : Nat} {s : S}, wh t b n s ≠ .stuck → wh t b (n + 1) s = wh t b n s
  | 0, s, h => (h rfl).elim
  | n + 1, s, h => by
    have e1 : wh t b (n + 1 + 1) s = bnd t (fun c => if c then (fun s => match b s with | .ok .nx s2 => wh t b (n + 1) s2 | .ok .ct s2 => wh t b (n + 1) s2 | .ok .bk s2 => .ok .nx s2 | .ok (.rt d) s2 => .ok (.rt d) s2 | .exc x s2 => .exc x s2 | .stuck => .stuck) else ret .nx) s := rfl
    have e2 : wh t b (n + 1) s = bnd t (fun c => if c then (fun s => match b s with | .ok .nx s2 => wh t b n s2 | .ok .ct s2 => wh t b n s2 | .ok .bk s2 => .ok .nx s2 | .ok (.rt d) s2 => .ok (.rt d) s2 | .exc x s2 => .exc x s2 | .stuck => .stuck) else ret .nx) s := rfl
    rw [e1, e2]
    rw [e2] at h
    unfold bnd at h ⊢
    cases ht : t s with
    | exc x s' => rfl
    | stuck => rfl
    | ok c s' =>
      rw [ht] at h
      cases c with
      | false => rfl
      | true =>
        simp only [if_true] at h ⊢
        cases hb : b s' with
        | exc x s2 => rfl
        | stuck => rfl
        | ok fl s2 =>
          simp only [hb] at h
          cases fl with
          | nx => exact wh_mono h
          | ct => exact wh_mono h
          | bk => rfl
          | rt d => rfl
theorem wh_le {t : MT} {b : MS} {n : Nat} {s : S} (h : wh t b n s ≠ .stuck) : ∀ k, wh t b (n + k) s = wh t b n s
  | 0 => rfl
  | k + 1 => by
    have ih := wh_le h k
    rw [← Nat.add_assoc, wh_mono (by rw [ih]; exact h), ih]
theorem mWhile_of {t : MT} {b : MS} {n : Nat} {s : S} (h : wh t b n s ≠ .stuck) : mWhile t b s = wh t b n s := by
  have hx : ∃ n, wh t b n s ≠ .stuck := ⟨n, h⟩
  unfold mWhile
  rw [dif_pos hx]
  have h2 := Classical.choose_spec hx
  generalize Classical.choose hx = k at h2
  rcases Nat.le_total n k with q | q
  · obtain ⟨j, rfl⟩ := Nat.exists_eq_add_of_le q
    exact wh_le h j
  · obtain ⟨j, rfl⟩ := Nat.exists_eq_add_of_le q
    exact (wh_le h2 j).symm
/-- THE EQUATION: one turn -/
theorem mWhile_eq (t : MT) (b : MS) (s : S) : mWhile t b s = bnd t (fun c => if c then (fun s => match b s with
      | .ok .nx s2 => mWhile t b s2
      | .ok .ct s2 => mWhile t b s2
      | .ok .bk s2 => .ok .nx s2
      | .ok (.rt d) s2 => .ok (.rt d) s2
      | .exc x s2 => .exc x s2
      | .stuck => .stuck) else ret .nx) s := by
  by_cases hx : ∃ n, wh t b n s ≠ .stuck
  · obtain ⟨n, hn⟩ := hx
    rw [mWhile_of hn]
    cases n with
    | zero => exact (hn rfl).elim
    | succ n =>
      have e2 : wh t b (n + 1) s = bnd t (fun c => if c then (fun s => match b s with | .ok .nx s2 => wh t b n s2 | .ok .ct s2 => wh t b n s2 | .ok .bk s2 => .ok .nx s2 | .ok (.rt d) s2 => .ok (.rt d) s2 | .exc x s2 => .exc x s2 | .stuck => .stuck) else ret .nx) s := rfl
      rw [e2] at hn ⊢
      unfold bnd at hn ⊢
      cases ht : t s with
      | exc x s' => rfl
      | stuck => rfl
      | ok c s' =>
        rw [ht] at hn
        cases c with
        | false => rfl
        | true =>
          simp only [if_true] at hn ⊢
          cases hb : b s' with
          | exc x s2 => rfl
          | stuck => rfl
          | ok fl s2 =>
            simp only [hb] at hn
            cases fl with
            | nx => exact (mWhile_of hn).symm
            | ct => exact (mWhile_of hn).symm
            | bk => rfl
            | rt d => rfl
  · have e : mWhile t b s = .stuck := by unfold mWhile; rw [dif_neg hx]
    rw [e]
    unfold bnd
    cases ht : t s with
    | exc x s' =>
      exfalso; apply hx; refine ⟨1, ?_⟩
      show bnd t _ s ≠ _
      unfold bnd; rw [ht]; intro z; cases z
    | stuck => rfl
    | ok c s' =>
      cases c with
      | false =>
        exfalso; apply hx; refine ⟨1, ?_⟩
        show bnd t _ s ≠ _
        unfold bnd; rw [ht]; intro z; cases z
      | true =>
        simp only [if_true]
        cases hb : b s' with
        | exc x s2 =>
          exfalso; apply hx; refine ⟨1, ?_⟩
          show bnd t _ s ≠ _
          unfold bnd; rw [ht]; simp only [if_true, hb]; intro z; cases z
        | stuck => rfl
        | ok fl s2 =>
          have key : ∀ n, wh t b n s2 = .stuck ∨ (fl = .bk ∨ ∃ d, fl = .rt d) := by
            intro n
            by_cases q : wh t b n s2 = .stuck
            · exact .inl q
            · right
              cases fl with
              | bk => exact .inl rfl
              | rt d => exact .inr ⟨d, rfl⟩
              | nx =>
                exfalso; apply hx; refine ⟨n + 1, ?_⟩
                show bnd t _ s ≠ _
                unfold bnd; rw [ht]; simp only [if_true, hb]; exact q
              | ct =>
                exfalso; apply hx; refine ⟨n + 1, ?_⟩
                show bnd t _ s ≠ _
                unfold bnd; rw [ht]; simp only [if_true, hb]; exact q
          cases fl with
          | nx =>
            have : ¬ ∃ n, wh t b n s2 ≠ .stuck := fun ⟨n, hn⟩ => by
              rcases key n with z | z | ⟨d, z⟩
              · exact hn z
              · cases z
              · cases z
            show _ = mWhile t b s2
            unfold mWhile; rw [dif_neg this]
          | ct =>
            have : ¬ ∃ n, wh t b n s2 ≠ .stuck := fun ⟨n, hn⟩ => by
              rcases key n with z | z | ⟨d, z⟩
              · exact hn z
              · cases z
              · cases z
            show _ = mWhile t b s2
            unfold mWhile; rw [dif_neg this]
          | bk =>
            exfalso; apply hx; refine ⟨1, ?_⟩
            show bnd t _ s ≠ _
            unfold bnd; rw [ht]; simp only [if_true, hb]; intro z; cases z
          | rt d =>
            exfalso; apply hx; refine ⟨1, ?_⟩
            show bnd t _ s ≠ _
            unfold bnd; rw [ht]; simp only [if_true, hb]; intro z; cases z
end DL

namespace DL
open PySem PySem.Spec PySem.W PySem.Calls L2

/-! ### defs -/
inductive RO where
  | ok (d : D) (st : List Ob) | exc (x : Exc) (st : List Ob) | stuck
abbrev Fn := List D → List Ob → RO
def slots (n : Nat) (ds : List D) : List Slot := ds.map .imm ++ List.replicate (n - ds.length) .emp
def endR : R Fl → RO
  | .ok (.rt d) s => .ok d s.st
  | .ok .nx s => .ok .non s.st
  | .ok _ _ => .stuck
  | .exc x s => .exc x s.st
  | .stuck => .stuck
/-- the def with n names whose body is m -/
def fnM (n : Nat) (m : MS) : Fn := fun ds st => endR (m ⟨slots n ds, st⟩)
/-- the heap and the store at a call -/
structure At (K : PySem.W.Frag) (G : Gh) (H : Hp) (st : List Ob) : Prop where
  ex : ∀ a o, G.F a = some o → H a = some o
  st : StRel K G H st
def okF (K : PySem.W.Frag) (G : Gh) (H : Hp) (Q : VK) (E : XK) : RO → Prop
  | .ok d st' => ∀ G' v H', Le G H G' H' → At K G' H' st' → Rep K G' v d → Q v H'
  | .exc x st' => ∀ G' c d H', Le G H G' H' → At K G' H' st' → XRep K G' c d x → E c d H'
  | .stuck => False
/-- the promise of a def that does f -/
def spF (K : PySem.W.Frag) (n : Nat) (f : Fn) : Sp := fun vs H Q E => ∃ (G : Gh) (ds : List D) (st : List Ob), vs.length = n ∧ At K G H st ∧ Reps K G vs ds ∧ okF K G H Q E (f ds st)
theorem slots_get {n i : Nat} {ds : List D} {x : Slot} (h : (slots n ds)[i]? = some x) : (∃ d, ds[i]? = some d ∧ x = .imm d) ∨ x = .emp := by
  unfold slots at h
  by_cases hl : i < ds.length
  · rw [List.getElem?_append_left (by simpa using hl), List.getElem?_map] at h
    rw [List.getElem?_eq_getElem hl] at h
    cases h
    exact .inl ⟨_, List.getElem?_eq_getElem hl, rfl⟩
  · rw [List.getElem?_append_right (by simpa using hl)] at h
    have := List.mem_of_getElem? h
    exact .inr (List.eq_of_mem_replicate this)
theorem start_get {N : List Str} {vs : List V} {i : Nat} {v : V} (h : vs[i]? = some v) : (L2.start N vs)[i]? = some (some v) := by
  unfold L2.start
  have hl : i < vs.length := (List.getElem?_eq_some_iff.mp h).1
  rw [List.getElem?_append_left (by simpa using hl), List.getElem?_map, h]; rfl
/-- at a def's entry -/
theorem rel_start {K : PySem.W.Frag} {G : Gh} {H : Hp} {st : List Ob} {N : List Str} {vs : List V} {ds : List D} (a : At K G H st) (r : Reps K G vs ds) : Rel K [] ⟨G, H, G, L2.start N vs, H, ⟨slots N.length ds, st⟩, []⟩ := by
  refine ⟨a.ex, Le.refl _ _, a.st, ⟨?_, fun i d h => ?_, fun i es h => ?_, fun i j es fs b h => ?_, fun i x h => ?_⟩, fun q hq => by cases hq⟩
  · show (L2.start N vs).length = (slots N.length ds).length
    unfold L2.start slots
    simp only [List.length_append, List.length_map, List.length_replicate, r.length]
  · rcases slots_get h with ⟨d', e1, e2⟩ | e
    · cases e2
      obtain ⟨v, h1, h2⟩ := r.get e1
      exact ⟨v, start_get h1, h2⟩
    · cases e
  · rcases slots_get h with ⟨d', e1, e2⟩ | e
    · cases e2
    · cases e
  · rcases slots_get h with ⟨d', e1, e2⟩ | e
    · cases e2
    · cases e
  · rcases slots_get h with ⟨d', e1, e2⟩ | e
    · cases e2
    · cases e
section
variable {P : Program} {w : World} {K : PySem.W.Frag} {mg : Str → Option Value} {base : Heap} {x qual : Str} {params : Arguments} {body : List Stmt} {scope : Scope} {dvs : List V} {kws : List (Str × V)} {f : Addr} {fd : FuncData}
/-- THE RULE for a def -/
theorem fn_ok {N ps : List Str} {k : Nat} {m : MS} (F : FunD K x qual params body scope dvs kws f fd) (Sc : FnScope N ps scope)
    (hb : ∀ (cdv : Value) (A : Around) (outer : List Env) (s : Shared) (H : Hp) (E : XK), Room k (A.deeper (PyProof.Rows.envOfC qual scope s.heap.objs.size f cdv)) → JSs (cxOf (L2.CX P w) P w K mg base N qual scope f cdv A outer s H E) (fun c d _ H => E c d H) body m) :
    FnOk P w K mg base (L2.CX P w) (k + 1) f fd ps (spF K ps.length (fnM N.length m)) := by
  refine F.ok Sc (fun vs H Q E h => ?_) (fun cdv A outer s H vs Q E hr h => ⟨_, hb cdv A outer s H E hr, ?_⟩)
  · obtain ⟨G, ds, st, hl, _⟩ := h
    exact hl
  · obtain ⟨G, ds, st, hl, a, r, h⟩ := h
    refine ⟨⟨G, H, G, L2.start N vs, H, ⟨slots N.length ds, st⟩, []⟩, rfl, rfl, rel_start a r, ?_⟩
    show okS K [] _ _ _ (m ⟨slots N.length ds, st⟩)
    unfold fnM at h
    cases hm : m ⟨slots N.length ds, st⟩ with
    | ok fl s' =>
      rw [hm] at h
      cases fl with
      | nx => exact fun G' σ' H' g r' => h G' .non H' r'.le ⟨r'.ex, r'.st⟩ .non
      | rt d => exact fun G' σ' H' g r' v p => h G' v H' r'.le ⟨r'.ex, r'.st⟩ p
      | bk => exact h.elim
      | ct => exact h.elim
    | exc e s' =>
      rw [hm] at h
      exact fun G' σ' c d H' g r' p => h G' c d H' r'.le ⟨r'.ex, r'.st⟩ p
    | stuck =>
      rw [hm] at h
      exact h
end
/-- the end of a call, from the caller's side -/
def outR (s : S) : RO → R D
  | .ok d st => .ok d { s with st := st }
  | .exc x st => .exc x { s with st := st }
  | .stuck => .stuck
def mCall (f : Fn) (m : MA) : ME := bnd m fun ds s => outR s (f ds s.st)
theorem Rel.after {K : PySem.W.Frag} {pn : List (Addr × Obj)} {w : Wd} {G' : Gh} {H' : Hp} {st' : List Ob} (r : Rel K pn w) (l : Le w.G w.H G' H') (a : At K G' H' st') : Rel K pn { w with G := G', H := H', s := { w.s with st := st' } } := by
  refine ⟨a.ex, r.le.trans l, a.st, ⟨r.sl.len, fun i d h => ?_, fun i ds h => ?_, r.sl.dis, fun i x h => ?_⟩, fun q hq => ?_⟩
  · obtain ⟨v, h1, h2⟩ := r.sl.imm i d h
    exact ⟨v, h1, h2.mono l.g⟩
  · obtain ⟨b, vs, h1, h2, h3, h4, h5, h6⟩ := r.sl.own i ds h
    refine ⟨b, vs, h1, l.kp _ _ h2 h5, h3.mono l.g, ?_, fun m => ?_, h6⟩
    · cases q : G'.F b with
      | none => rfl
      | some o =>
        rcases l.fz b o q with z | z | ⟨_, _, _, z⟩
        · rw [h4] at z; cases z
        · rw [h2] at z; cases z
        · cases z _ h2
    · rcases l.nw b m with z | z
      · exact h5 z
      · rw [h2] at z; cases z
  · obtain ⟨b, oe, tl, cls, d, h1, h2, h3, h4⟩ := r.sl.xn i x h
    exact ⟨b, oe, tl, cls, d, h1, h2, h3, h4.mono l.g⟩
  · obtain ⟨p1, p2, p3, p4⟩ := r.pr q hq
    refine ⟨l.kp _ _ p1 p3.1, ?_, ⟨fun m => ?_, p3.2⟩, p4⟩
    · cases z : G'.F q.1 with
      | none => rfl
      | some o =>
        rcases l.fz _ _ z with y | y | ⟨_, _, _, y⟩
        · rw [p2] at y; cases y
        · rw [p1] at y; cases y
        · have e := p3.2
          rw [y _ p1] at e
          cases e
    · rcases l.nw _ m with y | y
      · exact p3.1 y
      · rw [p1] at y; cases y
section
variable {X : Cx} {W : WX} {k : Nat} {f : Addr} {fd : FuncData} {ps : List Str} {fn : Fn} {x : Str} {p pos : Pos} {e : Expr} {es : List Expr} {m : MA} {dds : List D} {dvs : List V} {ds : List Value}
/-- the callee's side, from a state of the caller -/
theorem call_run {w : Wd} {vs : List V} {as : List D} {n : Nat} {Q : VK} (r : Rel X.K X.pn w) (q : Reps X.K w.G vs as) (hn : vs.length = n) (h : okG X.K X.pn W (AR X.K) w Q (outR w.s (fn as w.s.st))) : spF X.K n fn vs w.H Q (WE W w.σ) := by
  refine ⟨w.G, as, w.s.st, hn, ⟨r.ex, r.st⟩, q, ?_⟩
  cases hf : fn as w.s.st with
  | ok d st' =>
    rw [hf] at h
    exact fun G' v H' l a p => h G' v H' l.g (r.after l a) p
  | exc y st' =>
    rw [hf] at h
    exact fun G' c d H' l a p => h G' c d H' l.g (r.after l a) p
  | stuck =>
    rw [hf] at h
    exact h
/-- f(e, ..); dds: the defaults that fill up -/
theorem je_callD (F : FnOk X.prog X.w X.K X.mg X.base (L2.CX X.prog X.w) k f fd ps (spF X.K ps.length fn)) (hr : Room k X.A) (tk : Takes X W) (hg : Gl X x) (hm : X.mg x = some (.ref f)) (hk : PySem.W.keepIn X.K (.ref f) = true) (hb : Binds X.K fd ps ds) (hd : Vals dvs ds) (hdd : ∀ G, Reps X.K G dvs dds)
    (ha : JA X W (e :: es) m) (hl : (e :: es).length + dds.length = ps.length := by rfl) (hdb : (x == ("__debug__" : Str)) = false := by decide) (he : starEach (e :: es) X.env = (false, eval e X.env) :: starEach es X.env := by rfl) (hpl : (backTo pos (starEach es X.env)).any (·.1) = false := by rfl) :
    JE X W (.Call (.Name x p) (e :: es) [] pos) (mCall (fun as => fn (as ++ dds)) m) := by
  refine PE.imp (pe_callSD (E := WE W) F hr hg hm hk hb hd (fun σ => passAt tk σ) ha.pa hdb he hpl) fun σ H Q h => ?_
  obtain ⟨w, rfl, rfl, r, h⟩ := h
  refine run' r h fun as s' G' vs H' hm2 g r' q h' => ?_
  refine call_run (fn := fn) (w := { w with G := G', H := H', s := s' }) r' (q.append (hdd _)) ?_ h'
  rw [List.length_append, q.length, ha.len _ _ _ hm2, (hdd G').length]
  exact hl
theorem je_call (F : FnOk X.prog X.w X.K X.mg X.base (L2.CX X.prog X.w) k f fd ps (spF X.K ps.length fn)) (hr : Room k X.A) (tk : Takes X W) (hg : Gl X x) (hm : X.mg x = some (.ref f)) (hk : PySem.W.keepIn X.K (.ref f) = true) (hb : Binds X.K fd ps [])
    (ha : JA X W (e :: es) m) (hl : (e :: es).length = ps.length := by rfl) (hdb : (x == ("__debug__" : Str)) = false := by decide) (he : starEach (e :: es) X.env = (false, eval e X.env) :: starEach es X.env := by rfl) (hpl : (backTo pos (starEach es X.env)).any (·.1) = false := by rfl) :
    JE X W (.Call (.Name x p) (e :: es) [] pos) (mCall fn m) := by
  refine PE.imp (pe_callSD (E := WE W) F hr hg hm hk hb (Paired.nil) (fun σ => passAt tk σ) ha.pa hdb he hpl) fun σ H Q h => ?_
  obtain ⟨w, rfl, rfl, r, h⟩ := h
  refine run' r h fun as s' G' vs H' hm2 g r' q h' => ?_
  refine call_run (fn := fn) (w := { w with G := G', H := H', s := s' }) r' (by rw [List.append_nil]; exact q) ?_ h'
  rw [List.append_nil, q.length, ha.len _ _ _ hm2]
  exact hl
end
end DL

namespace DL
open PySem PySem.Spec L2

/-! ### items -/
def ixD : D → D → Option D
  | .tup ds, .int i => atI ds i
  | .lst ds, .int i => atI ds i
  | .kl ds, .int i => atI ds i
  | .kt ds, .int i => atI ds i
  | .str x, .int i => if few x.length then (atI x.cps.toList i).map fun c => .str ⟨#[c]⟩ else none
  | _, _ => none
theorem Reps.atI {K : PySem.W.Frag} {G : Gh} {vs : List V} {ds : List D} {i : Int} {d : D} (r : Reps K G vs ds) (h : L2.atI ds i = some d) : ∃ v, L2.atI vs i = some v ∧ Rep K G v d := by
  unfold L2.atI at h ⊢
  rw [r.length]
  cases hx : ixN ds.length i with
  | none => rw [hx] at h; cases h
  | some j =>
    rw [hx] at h
    exact r.get h
theorem k_ix {K : PySem.W.Frag} : R2Ok K (rIx K) ixD := by
  intro pn w x y d e z Q r p1 p2 hz k
  unfold ixD at hz
  split at hz
  · cases p2
    cases p1 with
    | tup hs rs =>
      obtain ⟨v, h1, h2⟩ := rs.atI hz
      exact .inr (.inl ⟨_, _, _, v, rfl, rfl, tqT r.ex hs, h1, k _ _ _ (.refl _) r h2⟩)
  · cases p2
    cases p1 with
    | lst hs rs =>
      obtain ⟨v, h1, h2⟩ := rs.atI hz
      exact .inl ⟨_, _, _, v, rfl, rfl, SqL.of (r.ex _ _ hs), h1, k _ _ _ (.refl _) r h2⟩
  · cases p2
    cases p1 with
    | kl hs rs =>
      obtain ⟨v, h1, h2⟩ := rs.atI hz
      exact .inl ⟨_, _, _, v, rfl, rfl, sqL_mono r.ex hs, h1, k _ _ _ (.refl _) r h2⟩
  · cases p2
    cases p1 with
    | kt hs rs =>
      obtain ⟨v, h1, h2⟩ := rs.atI hz
      exact .inr (.inl ⟨_, _, _, v, rfl, rfl, sqT_mono r.ex hs, h1, k _ _ _ (.refl _) r h2⟩)
  · rename_i z i
    cases p1; cases p2
    split at hz
    · rename_i hf
      cases hc : L2.atI z.cps.toList i with
      | none => rw [hc] at hz; cases hz
      | some c =>
        rw [hc] at hz; cases hz
        exact .inr (.inr ⟨_, _, c, rfl, rfl, hf.line, hc, k _ _ _ (.refl _) r (.str _)⟩)
    · cases hz
  · cases hz
/-- what stands in a slot now -/
def cur (s : S) (i : Nat) : Option D := match s.sl[i]? with
  | some (.imm d) => some d
  | some (.own ds) => some (.lst ds)
  | _ => none
def mIxV (i : Nat) (m : ME) : ME := bnd m fun e s => match cur s i with
  | some d => lift (ixD d e) s
  | none => .stuck
def mIxN (i : Nat) (m : ME) : ME := fun s => match cur s i with
  | some _ => mIxV i m s
  | none => .stuck
section
variable {X : Cx} {W : WX} {a b : Expr} {ma mb : ME} {pos p : Pos}
theorem je_ix (ha : JE X W a ma) (hb : JE X W b mb) (hs : PlainIx b := by exact fun _ _ => rfl) : JE X W (.Subscript a b pos) (mBin ixD ma mb) :=
  PE.imp (pe_ix ix_seq ha hb hs) fun _ _ _ h => r2_run k_ix h
theorem vis_slot {x : Str} {i : Nat} (hN : X.N[i]? = some x) (hv : Vis X.env.scope x) (hd : (x == ("__debug__" : Str)) = false) (hcd : (x == ("__classdict__" : Str)) = false) : PE X (.Name x pos) (tVar i) := pv i hN hv hd hcd
/-- the slot's value behind an expression -/
theorem slot_val {K : PySem.W.Frag} {pn : List (Addr × Obj)} {w : Wd} {i : Nat} {d : D} (r : Rel K pn w) (h : cur w.s i = some d) : ∃ v, w.σ[i]? = some (some v) ∧ (Rep K w.G v d ∨ ∃ a vs ds, v = .ref a ∧ d = .lst ds ∧ w.H a = some (.lst vs) ∧ Reps K w.G vs ds) := by
  unfold cur at h
  split at h
  · cases h
    rename_i e
    obtain ⟨v, h1, h2⟩ := r.sl.imm i _ e
    exact ⟨v, h1, .inl h2⟩
  · cases h
    rename_i e
    obtain ⟨b, vs, h1, h2, h3, _⟩ := r.sl.own i _ e
    exact ⟨_, h1, .inr ⟨b, vs, _, rfl, rfl, h2, h3⟩⟩
  · cases h
theorem je_ixV (i : Nat) {x : Str} (hb : JE X W b mb) (hs : PlainIx b := by exact fun _ _ => rfl) (hN : X.N[i]? = some x := by rfl) (hv : Vis X.env.scope x := by first | exact Or.inl rfl | exact Or.inr (Or.inl rfl) | exact Or.inr (Or.inr rfl)) (hd : (x == ("__debug__" : Str)) = false := by decide) (hcd : (x == ("__classdict__" : Str)) = false := by decide) :
    JE X W (.Subscript (.Name x p) b pos) (mIxN i mb) := by
  refine PE.imp (pe_ix ix_seq (pv i hN hv hd hcd) hb hs) fun σ H Q h => ?_
  obtain ⟨w, rfl, rfl, r, h⟩ := h
  unfold mIxN at h
  cases hc : cur w.s i with
  | none => simp only [hc] at h; exact h.elim
  | some d0 =>
    simp only [hc] at h
    obtain ⟨v, h1, _⟩ := slot_val r hc
    refine ⟨v, h1, ?_⟩
    refine run r h fun e s' G' y H' g r' p h' => ?_
    cases hc2 : cur s' i with
    | none => simp only [hc2] at h'; exact h'.elim
    | some d =>
      simp only [hc2] at h'
      obtain ⟨v2, h2, h3⟩ := slot_val r' hc2
      have h2 : w.σ[i]? = some (some v2) := h2
      rw [h1] at h2
      cases h2
      cases hz : ixD d e with
      | none => rw [hz] at h'; exact h'.elim
      | some z =>
        rw [hz] at h'
        rcases h3 with h3 | ⟨a, vs, ds, rfl, rfl, h4, h5⟩
        · exact k_ix X.pn _ v y d e z Q r' h3 p hz fun G3 y H3 g3 r3 p3 => h' G3 y H3 g3 r3 p3
        · unfold ixD at hz
          split at hz
          · rename_i heq; cases heq
          · rename_i heq
            cases heq
            cases p
            obtain ⟨u, e1, e2⟩ := h5.atI hz
            exact .inl ⟨_, _, _, u, rfl, rfl, SqL.of h4, e1, h' _ _ _ (.refl _) r' e2⟩
          · rename_i heq; cases heq
          · rename_i heq; cases heq
          · rename_i heq; cases heq
          · cases hz
end

/-! ### calls of built-ins with one argument that is only looked at -/
/-- a value that stands for d: frozen, or a list that a slot owns -/
def AL (K : PySem.W.Frag) : Wd → V → D → Prop := fun w v d => Rep K w.G v d ∨ ∃ a vs ds, v = .ref a ∧ d = .lst ds ∧ w.H a = some (.lst vs) ∧ Reps K w.G vs ds
def JB (X : Cx) (W : WX) (e : Expr) (m : ME) : Prop := PE X e (tG X.K X.pn W (AL X.K) m)
def mLook (i : Nat) : ME := fun s => match cur s i with
  | some d => .ok d s
  | none => .stuck
section
variable {X : Cx} {W : WX} {e : Expr} {m : ME} {pos p : Pos} {x : Str}
theorem jb_of (h : JE X W e m) : JB X W e m := by
  refine PE.imp h fun σ H Q h => ?_
  obtain ⟨w, rfl, rfl, r, h⟩ := h
  refine ⟨w, rfl, rfl, r, ?_⟩
  cases hm : m w.s with
  | ok d s' => rw [hm] at h; exact fun G' v H' g r' p => h G' v H' g r' (.inl p)
  | exc y s' => rw [hm] at h; exact h
  | stuck => rw [hm] at h; exact h
theorem jb_var (i : Nat) (hN : X.N[i]? = some x := by rfl) (hv : Vis X.env.scope x := by first | exact Or.inl rfl | exact Or.inr (Or.inl rfl) | exact Or.inr (Or.inr rfl)) (hd : (x == ("__debug__" : Str)) = false := by decide) (hcd : (x == ("__classdict__" : Str)) = false := by decide) : JB X W (.Name x pos) (mLook i) := by
  refine PE.imp (pv i hN hv hd hcd) fun σ H Q h => ?_
  obtain ⟨w, rfl, rfl, r, h⟩ := h
  unfold mLook at h
  cases hc : cur w.s i with
  | none => rw [hc] at h; exact h.elim
  | some d =>
    rw [hc] at h
    obtain ⟨v, h1, h2⟩ := slot_val r hc
    exact ⟨v, h1, h w.G v w.H (.refl _) r h2⟩
/-- a new list, only looked at -/
theorem jb_new {m : MA} (h : JF X W e m) : JB X W e (bnd m fun ds => ret (.lst ds)) := by
  refine PE.imp h fun σ H Q h => ?_
  obtain ⟨w, rfl, rfl, r, h⟩ := h
  refine run r h fun ds s' G' v H' g r' a h' => ?_
  obtain ⟨b, vs, rfl, h1, h2, _⟩ := a
  exact fin r' h' (.inr ⟨b, vs, ds, rfl, rfl, h1, h2⟩)
/-- r on one value does what f does -/
def R1Ok (K : PySem.W.Frag) (r : List V → Hp → VK → Prop) (f : D → Option D) : Prop := ∀ (pn : List (Addr × Obj)) (w : Wd) (x : V) (d z : D) (Q : VK), Rel K pn w → AL K w x d → f d = some z → (∀ G' v H', w.G.le G' → Rel K pn { w with G := G', H := H' } → Rep K G' v z → Q v H') → r [x] w.H Q
def R1OkF (K : PySem.W.Frag) (r : List V → Hp → VK → Prop) (f : D → Option (List D)) : Prop := ∀ (pn : List (Addr × Obj)) (w : Wd) (x : V) (d : D) (z : List D) (Q : VK), Rel K pn w → AL K w x d → f d = some z → (∀ G' v H', w.G.le G' → Rel K pn { w with G := G', H := H' } → AF K { w with G := G', H := H' } v z → Q v H') → r [x] w.H Q
def mUnF (f : D → Option (List D)) (m : ME) : MA := bnd m fun d s => match f d with
  | some z => .ok z s
  | none => .stuck
theorem r1_run {r : List V → Hp → VK → Prop} {f : D → Option D} {σ : L2.St} {H : Hp} {Q : VK} (hr : R1Ok X.K r f) (h : tG X.K X.pn W (AR X.K) (mUn f m) σ H Q) : tCB r (tCons (tG X.K X.pn W (AL X.K) m) tNil) σ H Q := by
  obtain ⟨w, rfl, rfl, r0, h⟩ := h
  refine run r0 h fun d s' G' v H' g r' p h' => ?_
  cases hz : f d with
  | none => rw [hz] at h'; exact h'.elim
  | some z =>
    rw [hz] at h'
    exact hr X.pn _ v d z Q r' p hz fun G3 y H3 g3 r3 p3 => h' G3 y H3 g3 r3 p3
theorem r1_runF {r : List V → Hp → VK → Prop} {f : D → Option (List D)} {σ : L2.St} {H : Hp} {Q : VK} (hr : R1OkF X.K r f) (h : tG X.K X.pn W (AF X.K) (mUnF f m) σ H Q) : tCB r (tCons (tG X.K X.pn W (AL X.K) m) tNil) σ H Q := by
  obtain ⟨w, rfl, rfl, r0, h⟩ := h
  refine run r0 h fun d s' G' v H' g r' p h' => ?_
  cases hz : f d with
  | none => rw [hz] at h'; exact h'.elim
  | some z =>
    rw [hz] at h'
    exact hr X.pn _ v d z Q r' p hz fun G3 y H3 g3 r3 p3 => h' G3 y H3 g3 r3 p3
variable {r : List V → Hp → VK → Prop} {f : D → Option D} {ff : D → Option (List D)} {id T : String}
theorem je_b1 (hc : CallR X (.builtin id) r) (hr : R1Ok X.K r f) (hg : Gl X x) (hm : X.mg x = none) (hv : bootBuiltins x = some (.builtin id)) (h : JB X W e m) (hn : x ≠ "__name__" := by decide) (hdb : (x == ("__debug__" : Str)) = false := by decide)
    (hs : starEach [e] X.env = (false, eval e X.env) :: starEach [] X.env := by rfl) (h1 : starEach [e] X.env = (false, eval e X.env) :: starEach [] X.env := by rfl) (h2 : (backTo pos (starEach [] X.env)).any (·.1) = false := by rfl) :
    JE X W (.Call (.Name x p) [e] [] pos) (mUn f m) := PE.imp (pe_callB hc hg hm hv (pa_cons h pa_nil hs) hn hdb h1 h2) fun _ _ _ h => r1_run hr h
theorem je_t1 (hc : CallR X (.type T) r) (hr : R1Ok X.K r f) (hg : Gl X x) (hm : X.mg x = none) (hv : bootBuiltins x = some (.type T)) (h : JB X W e m) (hn : x ≠ "__name__" := by decide) (hdb : (x == ("__debug__" : Str)) = false := by decide)
    (hs : starEach [e] X.env = (false, eval e X.env) :: starEach [] X.env := by rfl) (h1 : starEach [e] X.env = (false, eval e X.env) :: starEach [] X.env := by rfl) (h2 : (backTo pos (starEach [] X.env)).any (·.1) = false := by rfl) :
    JE X W (.Call (.Name x p) [e] [] pos) (mUn f m) := PE.imp (pe_callTy hc hg hm hv (pa_cons h pa_nil hs) hn hdb h1 h2) fun _ _ _ h => r1_run hr h
theorem jf_b1 (hc : CallR X (.builtin id) r) (hr : R1OkF X.K r ff) (hg : Gl X x) (hm : X.mg x = none) (hv : bootBuiltins x = some (.builtin id)) (h : JB X W e m) (hn : x ≠ "__name__" := by decide) (hdb : (x == ("__debug__" : Str)) = false := by decide)
    (hs : starEach [e] X.env = (false, eval e X.env) :: starEach [] X.env := by rfl) (h1 : starEach [e] X.env = (false, eval e X.env) :: starEach [] X.env := by rfl) (h2 : (backTo pos (starEach [] X.env)).any (·.1) = false := by rfl) :
    JF X W (.Call (.Name x p) [e] [] pos) (mUnF ff m) := PE.imp (pe_callB hc hg hm hv (pa_cons h pa_nil hs) hn hdb h1 h2) fun _ _ _ h => r1_runF hr h
theorem jf_t1 (hc : CallR X (.type T) r) (hr : R1OkF X.K r ff) (hg : Gl X x) (hm : X.mg x = none) (hv : bootBuiltins x = some (.type T)) (h : JB X W e m) (hn : x ≠ "__name__" := by decide) (hdb : (x == ("__debug__" : Str)) = false := by decide)
    (hs : starEach [e] X.env = (false, eval e X.env) :: starEach [] X.env := by rfl) (h1 : starEach [e] X.env = (false, eval e X.env) :: starEach [] X.env := by rfl) (h2 : (backTo pos (starEach [] X.env)).any (·.1) = false := by rfl) :
    JF X W (.Call (.Name x p) [e] [] pos) (mUnF ff m) := PE.imp (pe_callTy hc hg hm hv (pa_cons h pa_nil hs) hn hdb h1 h2) fun _ _ _ h => r1_runF hr h
end
/-! what they do -/
section
variable {K : PySem.W.Frag}
theorem AL.sq {pn : List (Addr × Obj)} {w : Wd} {x : V} {d : D} {ds : List D} (r : Rel K pn w) (p : AL K w x d) (h : itD d = some ds) : ∃ a vs, x = .ref a ∧ (SqL K w.H a vs ∨ SqT K w.H a vs) ∧ (isTup d = false → SqL K w.H a vs) ∧ (isTup d = true → SqT K w.H a vs) ∧ Reps K w.G vs ds := by
  rcases p with p | ⟨a, vs, es, rfl, rfl, h1, h2⟩
  · cases ht : isTup d with
    | false =>
      obtain ⟨a, vs, rfl, hs, rs⟩ := rep_sq p h ht
      exact ⟨a, vs, rfl, .inl (sqL_mono r.ex hs), fun _ => sqL_mono r.ex hs, (fun z => by cases z), rs⟩
    | true =>
      obtain ⟨a, vs, rfl, hs, rs⟩ := rep_st p h ht
      exact ⟨a, vs, rfl, .inr (sqT_mono r.ex hs), (fun z => by cases z), fun _ => sqT_mono r.ex hs, rs⟩
  · cases h
    exact ⟨a, vs, rfl, .inl (SqL.of h1), fun _ => SqL.of h1, (fun z => by cases z), h2⟩
def fLen : D → Option D
  | .str x => if few x.length then some (.int x.length) else none
  | d => (itD d).map fun ds => .int ds.length
theorem k_len : R1Ok K (fun xs H Q => ∃ x n, xs = [x] ∧ LenV K x H n ∧ Q (.int n) H) fLen := by
  intro pn w x d z Q r p hz k
  unfold fLen at hz
  split at hz
  · rename_i y
    split at hz
    · rename_i hf
      cases hz
      rcases p with p | ⟨a, vs, es, rfl, he, _⟩
      · cases p
        exact ⟨_, _, rfl, ⟨hf.line, rfl⟩, k _ _ _ (.refl _) r (.int _)⟩
      · cases he
    · cases hz
  · cases hi : itD d with
    | none => rw [hi] at hz; cases hz
    | some ds =>
      rw [hi] at hz; cases hz
      obtain ⟨a, vs, rfl, hq, _, _, rs⟩ := AL.sq r p hi
      refine ⟨_, ds.length, rfl, ?_, k _ _ _ (.refl _) r (.int _)⟩
      rw [← rs.length]
      rcases hq with hq | hq
      · exact .inl ⟨_, hq, rfl⟩
      · exact .inr ⟨_, hq, rfl⟩
theorem k_list : R1OkF K (fun xs H Q => ∃ p ys, xs = [.ref p] ∧ (SqL K H p ys ∨ SqT K H p ys) ∧ ∀ l, H l = none → Q (.ref l) (upd H l (.lst ys))) itD := by
  intro pn w x d z Q r p hz k
  obtain ⟨a, vs, rfl, hq, _, _, rs⟩ := AL.sq r p hz
  exact ⟨a, vs, rfl, hq, fun l hl => k _ _ _ (.refl _) (r.alloc hl) (AF.new r hl rs)⟩
def fTuple (d : D) : Option D := match d with
  | .kt ds => some (.kt ds)
  | d => (itD d).map .tup
theorem k_tuple : R1Ok K (fun xs H Q => ∃ p ys, xs = [.ref p] ∧ ((SqL K H p ys ∧ ∀ l, H l = none → Q (.ref l) (upd H l (.tup ys))) ∨ (SqT K H p ys ∧ Q (.ref p) H))) fTuple := by
  intro pn w x d z Q r p hz k
  unfold fTuple at hz
  split at hz
  · rename_i ds
    cases hz
    rcases p with p | ⟨a, vs, es, rfl, e, _⟩
    · cases p with
      | kt hs rs => exact ⟨_, _, rfl, .inr ⟨sqT_mono r.ex hs, k _ _ _ (.refl _) r (.kt hs rs)⟩⟩
    · cases e
  · rename_i d0 hnk
    cases hi : itD d with
    | none => rw [hi] at hz; cases hz
    | some ds =>
      rw [hi] at hz; cases hz
      cases ht : isTup d with
      | false =>
        obtain ⟨a, vs, rfl, _, hq, _, rs⟩ := AL.sq r p hi
        refine ⟨a, vs, rfl, .inl ⟨hq ht, fun l hl => ?_⟩⟩
        have hn : w.G.F l = none := r.noF hl
        exact k _ _ _ (gle_upd hn) (r.new hl) (.tup upd_same (rs.mono (gle_upd hn)))
      | true =>
        rcases p with p | ⟨a, vs, es, rfl, rfl, _⟩
        · cases p with
          | tup hs rs => cases hi; exact ⟨_, _, rfl, .inr ⟨tqT r.ex hs, k _ _ _ (.refl _) r (.tup hs rs)⟩⟩
          | kt hs rs => exact (hnk _ rfl).elim
          | _ => cases ht
        · cases ht
/-- all items are bools -/
def blsD : List D → Option (List Bool)
  | [] => some []
  | .bl b :: r => (blsD r).map (b :: ·)
  | _ => none
theorem bls_v {G : Gh} : ∀ {vs : List V} {ds : List D} {bs : List Bool}, Reps K G vs ds → blsD ds = some bs → vs = bs.map V.bl
  | _, _, _, .nil, h => by cases h; rfl
  | _, _, bs, .cons (d := d) (ds := ds) p r, h => by
    cases d with
    | bl b =>
      unfold blsD at h
      cases hb : blsD ds with
      | none => rw [hb] at h; cases h
      | some cs =>
        rw [hb] at h; cases h
        cases p
        rw [bls_v r hb]; rfl
    | _ => cases h
def fAll : D → Option D
  | .lst ds => (blsD ds).map fun bs => .bl (bs.all id)
  | _ => none
def fAny : D → Option D
  | .lst ds => (blsD ds).map fun bs => .bl (bs.any id)
  | _ => none
theorem AL.lst {pn : List (Addr × Obj)} {w : Wd} {x : V} {ds : List D} (r : Rel K pn w) (p : AL K w x (.lst ds)) : ∃ a vs, x = .ref a ∧ SqL K w.H a vs ∧ Reps K w.G vs ds := by
  obtain ⟨a, vs, rfl, _, hq, _, rs⟩ := AL.sq r p rfl
  exact ⟨a, vs, rfl, hq rfl, rs⟩
theorem k_all : R1Ok K (rAll K) fAll := by
  intro pn w x d z Q r p hz k
  unfold fAll at hz
  split at hz
  · rename_i ds
    cases hb : blsD ds with
    | none => rw [hb] at hz; cases hz
    | some bs =>
      rw [hb] at hz; cases hz
      obtain ⟨a, vs, rfl, hq, rs⟩ := AL.lst r p
      have e := bls_v rs hb
      subst e
      exact ⟨a, bs, rfl, hq, k _ _ _ (.refl _) r (.bl _)⟩
  · cases hz
theorem k_any : R1Ok K (rAny K) fAny := by
  intro pn w x d z Q r p hz k
  unfold fAny at hz
  split at hz
  · rename_i ds
    cases hb : blsD ds with
    | none => rw [hb] at hz; cases hz
    | some bs =>
      rw [hb] at hz; cases hz
      obtain ⟨a, vs, rfl, hq, rs⟩ := AL.lst r p
      have e := bls_v rs hb
      subst e
      exact ⟨a, bs, rfl, hq, k _ _ _ (.refl _) r (.bl _)⟩
  · cases hz
/-- all items are ints -/
def intsD? : List D → Option (List Int)
  | [] => some []
  | .int b :: r => (intsD? r).map (b :: ·)
  | _ => none
theorem ints_v {G : Gh} : ∀ {vs : List V} {ds : List D} {bs : List Int}, Reps K G vs ds → intsD? ds = some bs → vs = bs.map V.int
  | _, _, _, .nil, h => by cases h; rfl
  | _, _, bs, .cons (d := d) (ds := ds) p r, h => by
    cases d with
    | int b =>
      unfold intsD? at h
      cases hb : intsD? ds with
      | none => rw [hb] at h; cases h
      | some cs =>
        rw [hb] at h; cases h
        cases p
        rw [ints_v r hb]; rfl
    | _ => cases h
theorem ints_rep {G : Gh} : ∀ (ns : List Int), Reps K G (ns.map V.int) (ns.map D.int)
  | [] => .nil
  | n :: ns => .cons (.int n) (ints_rep ns)
def fSum : D → Option D
  | .lst ds => (intsD? ds).map fun ns => .int ns.sum
  | _ => none
theorem k_sum : R1Ok K (rSum K) fSum := by
  intro pn w x d z Q r p hz k
  unfold fSum at hz
  split at hz
  · rename_i ds
    cases hb : intsD? ds with
    | none => rw [hb] at hz; cases hz
    | some bs =>
      rw [hb] at hz; cases hz
      obtain ⟨a, vs, rfl, hq, rs⟩ := AL.lst r p
      have e := ints_v rs hb
      subst e
      exact ⟨a, bs, rfl, hq, k _ _ _ (.refl _) r (.int _)⟩
  · cases hz
/-- sorted ints -/
def sortI (ns : List Int) : List Int := ns.mergeSort (fun a b => decide (a ≤ b))
theorem sortI_perm (ns : List Int) : (sortI ns).Perm ns := List.mergeSort_perm ns _
theorem sortI_sorted (ns : List Int) : (sortI ns).Pairwise (· ≤ ·) := by
  have h := List.pairwise_mergeSort (le := fun (a b : Int) => decide (a ≤ b)) (fun a b c h1 h2 => by simp at *; omega) (fun a b => by simp; omega) ns
  exact h.imp fun h => by simpa using h
theorem perm_sorted_eq : ∀ {l l' : List Int}, l.Perm l' → l.Pairwise (· ≤ ·) → l'.Pairwise (· ≤ ·) → l = l'
  | [], l', h, _, _ => (List.nil_perm.mp h).symm
  | a :: l, [], h, _, _ => by have := h.length_eq; simp at this
  | a :: l, b :: l', h, h1, h2 => by
    have hab : a = b := by
      have m1 : a ∈ b :: l' := h.subset List.mem_cons_self
      have m2 : b ∈ a :: l := h.symm.subset List.mem_cons_self
      rcases List.mem_cons.mp m1 with e | e
      · exact e
      · rcases List.mem_cons.mp m2 with e' | e'
        · exact e'.symm
        · have x1 := (List.pairwise_cons.mp h1).1 b e'
          have x2 := (List.pairwise_cons.mp h2).1 a e
          omega
    subst hab
    rw [perm_sorted_eq (List.Perm.cons_inv h) (List.pairwise_cons.mp h1).2 (List.pairwise_cons.mp h2).2]
def fSortI : D → Option (List D)
  | .lst ds => (intsD? ds).map fun ns => (sortI ns).map D.int
  | _ => none
theorem k_sortI : R1OkF K (rSortedI K) fSortI := by
  intro pn w x d z Q r p hz k
  unfold fSortI at hz
  split at hz
  · rename_i ds
    cases hb : intsD? ds with
    | none => rw [hb] at hz; cases hz
    | some bs =>
      rw [hb] at hz; cases hz
      obtain ⟨a, vs, rfl, hq, rs⟩ := AL.lst r p
      have e := ints_v rs hb
      subst e
      refine ⟨a, bs, rfl, hq, fun ns' q hp hs hn => ?_⟩
      have e : ns' = sortI bs := perm_sorted_eq (hp.trans (sortI_perm bs).symm) hs (sortI_sorted bs)
      subst e
      exact k _ _ _ (.refl _) (r.alloc hn) (AF.new r hn (ints_rep _))
  · cases hz
def fAbs : D → Option D
  | .int i => some (.int (if i < 0 then -i else i))
  | _ => none
theorem AL.rep {w : Wd} {x : V} {d : D} (p : AL K w x d) (h : ∀ ds, d ≠ .lst ds) : Rep K w.G x d := by
  rcases p with p | ⟨a, vs, es, rfl, he, _⟩
  · exact p
  · exact (h _ he).elim
theorem k_abs : R1Ok K (fun xs H Q => ∃ i, xs = [.int i] ∧ Q (.int (if i < 0 then -i else i)) H) fAbs := by
  intro pn w x d z Q r p hz k
  unfold fAbs at hz
  split at hz
  · cases hz
    have p := p.rep (fun _ => by simp)
    cases p
    exact ⟨_, rfl, k _ _ _ (.refl _) r (.int _)⟩
  · cases hz
def fInt : D → Option D
  | .int i => some (.int i)
  | .bl b => some (.int (if b then 1 else 0))
  | _ => none
theorem k_int : R1Ok K (fun xs H Q => (∃ i, xs = [.int i] ∧ Q (.int i) H) ∨ ∃ k, xs = [.bl k] ∧ Q (.int (if k then 1 else 0)) H) fInt := by
  intro pn w x d z Q r p hz k
  unfold fInt at hz
  split at hz
  · cases hz
    have p := p.rep (fun _ => by simp)
    cases p
    exact .inl ⟨_, rfl, k _ _ _ (.refl _) r (.int _)⟩
  · cases hz
    have p := p.rep (fun _ => by simp)
    cases p
    exact .inr ⟨_, rfl, k _ _ _ (.refl _) r (.int _)⟩
  · cases hz
def fBool : D → Option D
  | .int i => some (.bl (i != 0))
  | .bl b => some (.bl b)
  | _ => none
theorem k_bool : R1Ok K (fun xs H Q => (∃ i, xs = [.int i] ∧ Q (.bl (i != 0)) H) ∨ ∃ k, xs = [.bl k] ∧ Q (.bl k) H) fBool := by
  intro pn w x d z Q r p hz k
  unfold fBool at hz
  split at hz
  · cases hz
    have p := p.rep (fun _ => by simp)
    cases p
    exact .inl ⟨_, rfl, k _ _ _ (.refl _) r (.bl _)⟩
  · cases hz
    have p := p.rep (fun _ => by simp)
    cases p
    exact .inr ⟨_, rfl, k _ _ _ (.refl _) r (.bl _)⟩
  · cases hz
def fStrI : D → Option D
  | .int i => if bits i < 1920 then some (.str (toString i)) else none
  | _ => none
theorem k_strI : R1Ok K (fun xs H Q => ∃ i, xs = [.int i] ∧ i.natAbs.log2 < 1920 ∧ Q (.str (toString i)) H) fStrI := by
  intro pn w x d z Q r p hz k
  unfold fStrI at hz
  split at hz
  · split at hz
    · rename_i hb
      cases hz
      have p := p.rep (fun _ => by simp)
      cases p
      exact ⟨_, rfl, hb, k _ _ _ (.refl _) r (.str _)⟩
    · cases hz
  · cases hz
end
end DL

namespace DL
open PySem PySem.Spec L2

/-! ### + and * -/
section
variable {K : PySem.W.Frag}
def sAdd : D → D → Option D
  | .str a, .str b => if few (a.length + b.length) then some (.str (a ++ b)) else none
  | _, _ => none
theorem k_sadd : R2Ok K (fun x y H Q => ∃ i j, x = .str i ∧ y = .str j ∧ i.length + j.length ≤ sizeLine ∧ Q (.str (i ++ j)) H) sAdd := by
  intro pn w x y d e z Q r p1 p2 hz k
  unfold sAdd at hz
  split at hz
  · split at hz
    · rename_i hf
      cases hz; cases p1; cases p2
      exact ⟨_, _, rfl, rfl, hf.line, k _ _ _ (.refl _) r (.str _)⟩
    · cases hz
  · cases hz
def tAdd : D → D → Option D
  | .tup a, .tup b => if few (a.length + b.length) then some (.tup (a ++ b)) else none
  | _, _ => none
theorem k_tadd : R2Ok K (rCatA K) tAdd := by
  intro pn w x y d e z Q r p1 p2 hz k
  unfold tAdd at hz
  split at hz
  · split at hz
    · rename_i hf
      cases hz
      cases p1 with
      | tup h1 r1 =>
        cases p2 with
        | tup h2 r2 =>
          refine ⟨_, _, _, _, rfl, rfl, tqT r.ex h1, tqT r.ex h2, by rw [r1.length, r2.length]; exact hf.line, fun e => ?_, fun e1 e2 => ?_, fun _ _ p hp => ?_⟩
          · subst e; cases r1
            exact k _ _ _ (.refl _) r (.tup h2 r2)
          · subst e2; cases r2
            rw [List.append_nil] at k
            exact k _ _ _ (.refl _) r (.tup h1 r1)
          · have hn := r.noF hp
            exact k _ _ _ (gle_upd hn) (r.new hp) (.tup upd_same ((r1.append r2).mono (gle_upd hn)))
    · cases hz
  · cases hz
def lAddL : D → D → Option (List D)
  | .lst a, .lst b => if few (a.length + b.length) then some (a ++ b) else none
  | _, _ => none
theorem k_laddF : R2OkF K rCat lAddL := by
  intro pn w x y d e z Q r p1 p2 hz k
  unfold lAddL at hz
  split at hz
  · split at hz
    · rename_i hf
      cases hz
      cases p1 with
      | lst h1 r1 =>
        cases p2 with
        | lst h2 r2 =>
          exact ⟨_, _, _, _, rfl, rfl, r.ex _ _ h1, r.ex _ _ h2, by rw [r1.length, r2.length]; exact hf.line, fun p hp => k _ _ _ (.refl _) (r.alloc hp) (AF.new r hp (r1.append r2))⟩
    · cases hz
  · cases hz
theorem R2OkF.frozen {rr : R2} {f : D → D → Option (List D)} (h : R2OkF K rr f) : R2Ok K rr (fun d e => (f d e).map .lst) := by
  intro pn w x y d e z Q r p1 p2 hz k
  dsimp only at hz
  cases hf : f d e with
  | none => rw [hf] at hz; cases hz
  | some l =>
    rw [hf] at hz; cases hz
    refine h pn w x y d e l Q r p1 p2 hf fun G' v H' g r' a => ?_
    obtain ⟨G2, g2, r2, p⟩ := AF.rep r' a
    exact k G2 v H' (g.trans g2) r2 p
def lRepL : D → D → Option (List D)
  | .lst a, .int k => if -(2 ^ 63) ≤ k ∧ k < 2 ^ 63 ∧ few (a.length * k.toNat) then some (List.replicate k.toNat a).flatten else none
  | _, _ => none
theorem reps_rep {G : Gh} {vs : List V} {ds : List D} (r : Reps K G vs ds) : ∀ n, Reps K G (List.replicate n vs).flatten (List.replicate n ds).flatten
  | 0 => .nil
  | n + 1 => by
    rw [List.replicate_succ, List.replicate_succ, List.flatten_cons, List.flatten_cons]
    exact r.append (reps_rep r n)
theorem k_lrepF : R2OkF K rRep lRepL := by
  intro pn w x y d e z Q r p1 p2 hz k
  unfold lRepL at hz
  split at hz
  · split at hz
    · rename_i hf
      cases hz
      cases p2
      cases p1 with
      | lst h1 r1 =>
        exact ⟨_, _, _, rfl, rfl, r.ex _ _ h1, hf.1, hf.2.1, by rw [r1.length]; exact hf.2.2.line, fun p hp => k _ _ _ (.refl _) (r.alloc hp) (AF.new r hp (reps_rep r1 _))⟩
    · cases hz
  · cases hz
/-- + of ints, texts, tuples, lists -/
def fAdd : D → D → Option D
  | .int i, .int j => some (.int (i + j))
  | .str a, .str b => sAdd (.str a) (.str b)
  | .tup a, .tup b => tAdd (.tup a) (.tup b)
  | .lst a, .lst b => (lAddL (.lst a) (.lst b)).map .lst
  | _, _ => none
theorem R2Ok.to {rr : R2} {f g : D → D → Option D} (h : R2Ok K rr f) (e : ∀ d e z, g d e = some z → f d e = some z) : R2Ok K rr g := fun pn w x y d e' z Q r p1 p2 hz k => h pn w x y d e' z Q r p1 p2 (e _ _ _ hz) k
def rAddX (K : PySem.W.Frag) : R2 := fun x y H Q => (rI0 fun i j => .int (i + j)) x y H Q ∨ (∃ i j, x = .str i ∧ y = .str j ∧ i.length + j.length ≤ sizeLine ∧ Q (.str (i ++ j)) H) ∨ rCatA K x y H Q ∨ rCat x y H Q
theorem op_addX {X : Cx} : OpR X (binaryOp .Add) (rAddX X.K) := op_add.or (op_add_str.or (op_catA.or op_cat))
theorem k_addX : R2Ok K (rAddX K) fAdd := by
  intro pn w x y d e z Q r p1 p2 hz k
  unfold fAdd at hz
  split at hz
  · exact .inl (k_add pn w x y _ _ z Q r p1 p2 hz k)
  · exact .inr (.inl (k_sadd pn w x y _ _ z Q r p1 p2 hz k))
  · exact .inr (.inr (.inl (k_tadd pn w x y _ _ z Q r p1 p2 hz k)))
  · exact .inr (.inr (.inr (k_laddF.frozen pn w x y _ _ z Q r p1 p2 hz k)))
  · cases hz
def fMul : D → D → Option D
  | .int i, .int j => iMul (.int i) (.int j)
  | .lst a, .int k => (lRepL (.lst a) (.int k)).map .lst
  | _, _ => none
def rMulX : R2 := fun x y H Q => (rI CMulW fun i j => .int (i * j)) x y H Q ∨ rRep x y H Q
theorem op_mulX {X : Cx} : OpR X (binaryOp .Mult) rMulX := op_mulW.or op_rep
theorem k_mulX : R2Ok K rMulX fMul := by
  intro pn w x y d e z Q r p1 p2 hz k
  unfold fMul at hz
  split at hz
  · exact .inl (k_mul pn w x y _ _ z Q r p1 p2 hz k)
  · exact .inr (k_lrepF.frozen pn w x y _ _ z Q r p1 p2 hz k)
  · cases hz
/-! ### in -/
def flatD : D → Bool
  | .non => true | .bl _ => true | .int _ => true | .str _ => true
  | _ => false
def eqF : D → D → Bool
  | .non, .non => true
  | .bl a, .bl b => a == b
  | .bl a, .int b => (if a then 1 else 0) == b
  | .int a, .bl b => a == (if b then 1 else 0)
  | .int a, .int b => a == b
  | .str a, .str b => a == b
  | _, _ => false
def inD (d : D) (es : List D) : Bool := es.any fun e => eqF e d
theorem flat_v {G : Gh} {v : V} {d : D} (p : Rep K G v d) (h : flatD d = true) : flatV v = true := by
  cases p <;> first | rfl | cases h
theorem flat_vs {G : Gh} : ∀ {vs : List V} {ds : List D}, Reps K G vs ds → ds.all flatD = true → vs.all flatV = true
  | _, _, .nil, _ => rfl
  | _, _, .cons p r, h => by
    rw [List.all_cons, Bool.and_eq_true] at h
    rw [List.all_cons, flat_v p h.1, flat_vs r h.2]; rfl
theorem eqF_v {G : Gh} {v u : V} {d e : D} (p : Rep K G v d) (q : Rep K G u e) (h : flatD d = true) (h' : flatD e = true) : eqV v u = eqF d e := by
  cases p <;> first | (cases h; done) | (cases q <;> first | (cases h'; done) | rfl)
theorem inD_v {G : Gh} {v : V} {d : D} (p : Rep K G v d) (h : flatD d = true) : ∀ {vs : List V} {ds : List D}, Reps K G vs ds → ds.all flatD = true → inV v vs = inD d ds
  | _, _, .nil, _ => rfl
  | _, _, .cons q r, hs => by
    rw [List.all_cons, Bool.and_eq_true] at hs
    have ih := inD_v p h r hs.2
    unfold inV inD at ih ⊢
    rw [List.any_cons, List.any_cons, eqF_v q p hs.1 h, ih]
def fIn (neg : Bool) (d e : D) : Option D := match itD e with
  | some ds => if flatD d = true ∧ ds.all flatD = true then some (.bl (if neg then !inD d ds else inD d ds)) else none
  | none => none
theorem k_in (neg : Bool) : R2Ok K (rIn K neg) (fIn neg) := by
  intro pn w x y d e z Q r p1 p2 hz k
  unfold fIn at hz
  cases hi : itD e with
  | none => rw [hi] at hz; cases hz
  | some ds =>
    simp only [hi] at hz
    split at hz
    · rename_i hf
      cases hz
      obtain ⟨a, vs, rfl, hq, _, _, rs⟩ := AL.sq r (.inl p2) hi
      refine ⟨a, vs, rfl, hq, flat_v p1 hf.1, flat_vs rs hf.2, ?_⟩
      rw [inD_v p1 hf.1 rs hf.2]
      exact k _ _ _ (.refl _) r (.bl _)
    · cases hz
end
/-! ### slices -/
abbrev MO := S → R (Option Int)
def JO (X : Cx) (W : WX) (e : Option Expr) (m : MO) : Prop := PO X e (tG X.K X.pn W (fun _ (b a : Option Int) => b = a) m)
theorem PO.imp {X : Cx} {e : Option Expr} {t t' : TO} (h : PO X e t) (i : ∀ σ H Q, t' σ H Q → t σ H Q) : PO X e t' := ⟨fun pins s σ H Q I q => h.run pins s σ H Q I (i _ _ _ q)⟩
def mNoP : MO := ret none
def mPart (m : ME) : MO := bnd m fun d s => match d with
  | .int i => .ok (some i) s
  | _ => .stuck
def cutL {α : Type} (xs : List α) (lo hi : Option Int) : List α := (xs.drop (HT.sIx xs.length 0 lo)).take (HT.sIx xs.length xs.length hi - HT.sIx xs.length 0 lo)
def cutD (d : D) (lo hi : Option Int) : Option D := match d with
  | .tup ds => some (.tup (cutL ds lo hi))
  | .lst ds => some (.lst (cutL ds lo hi))
  | .kl ds => some (.lst (cutL ds lo hi))
  | .str z => if few z.length then some (.str (cutS z lo hi)) else none
  | _ => none
theorem reps_cut {K : PySem.W.Frag} {G : Gh} {vs : List V} {ds : List D} (r : Reps K G vs ds) (lo hi : Option Int) : Reps K G (cutV vs lo hi) (cutL ds lo hi) := by
  unfold cutV cutL
  rw [r.length]
  exact (r.drop _).take _
def rSlX (K : PySem.W.Frag) : V → Option Int → Option Int → Hp → VK → Prop := fun x lo hi H Q => rSlL K x lo hi H Q ∨ rSlA K x lo hi H Q ∨ rSlS x lo hi H Q
theorem sl_X {X : Cx} : SlR X (rSlX X.K) := sl_list.or (sl_tupA.or sl_str)
theorem cut_whole {α : Type} {xs : List α} {lo hi : Option Int} (h : HT.sIx xs.length 0 lo = 0 ∧ HT.sIx xs.length xs.length hi = xs.length) : cutL xs lo hi = xs := by
  unfold cutL
  rw [h.1, h.2, List.drop_zero, Nat.sub_zero, List.take_length]
theorem k_sl {K : PySem.W.Frag} {pn : List (Addr × Obj)} {w : Wd} {x : V} {d z : D} {lo hi : Option Int} {Q : VK} (r : Rel K pn w) (p : AL K w x d) (hz : cutD d lo hi = some z)
    (k : ∀ G' v H', w.G.le G' → Rel K pn { w with G := G', H := H' } → Rep K G' v z → Q v H') : rSlX K x lo hi w.H Q := by
  have lcase : ∀ {ds : List D}, itD d = some ds → isTup d = false → z = .lst (cutL ds lo hi) → rSlX K x lo hi w.H Q := fun {ds} hi' ht ez => by
    subst ez
    obtain ⟨a, vs, rfl, _, hq, _, rs⟩ := AL.sq r p hi'
    refine .inl ⟨a, vs, rfl, hq ht, fun q hn => ?_⟩
    obtain ⟨G2, g2, r2, p2⟩ := AF.rep (r.alloc hn) (AF.new r hn (reps_cut rs lo hi))
    exact k G2 _ _ g2 r2 p2
  unfold cutD at hz
  split at hz
  · cases hz
    rcases p with p | ⟨a, vs, es, rfl, he, _⟩
    · cases p with
      | tup hs rs =>
        refine .inr (.inl ⟨_, _, rfl, tqT r.ex hs, fun hw => ?_, fun _ q hn => ?_⟩)
        · rw [rs.length] at hw
          rw [cut_whole hw] at k
          exact k _ _ _ (.refl _) r (.tup hs rs)
        · have hf := r.noF hn
          exact k _ _ _ (gle_upd hf) (r.new hn) (.tup upd_same ((reps_cut rs lo hi).mono (gle_upd hf)))
    · cases he
  · cases hz; exact lcase rfl rfl rfl
  · cases hz; exact lcase rfl rfl rfl
  · split at hz
    · rename_i hf
      cases hz
      have p := p.rep (fun _ => by simp)
      cases p
      exact .inr (.inr ⟨_, rfl, hf.line, k _ _ _ (.refl _) r (.str _)⟩)
    · cases hz
  · cases hz
def mSl (m : ME) (lo hi : MO) : ME := bnd m fun d => bnd lo fun l => bnd hi fun h => lift (cutD d l h)
/-- of a slot -/
def mSlN (i : Nat) (lo hi : MO) : ME := fun s => match cur s i with
  | some _ => bnd lo (fun l => bnd hi fun h s => match cur s i with
    | some d => lift (cutD d l h) s
    | none => .stuck) s
  | none => .stuck
section
variable {X : Cx} {W : WX} {e : Expr} {m : ME} {lo hi : Option Expr} {ml mh : MO} {pos p2 : Pos}
theorem jo_none : JO X W none mNoP := by
  refine PO.imp po_none fun σ H Q h => ?_
  obtain ⟨w, rfl, rfl, r, h⟩ := h
  exact fin r h rfl
theorem jo_some (h : JE X W e m) : JO X W (some e) (mPart m) := by
  refine PO.imp (po_some h) fun σ H Q h => ?_
  obtain ⟨w, rfl, rfl, r, h⟩ := h
  refine run r h fun d s' G' v H' g r' p h' => ?_
  split at h'
  · cases p
    exact ⟨_, rfl, fin r' h' rfl⟩
  · exact h'.elim
theorem je_sl (h : JE X W e m) (hl : JO X W lo ml) (hh : JO X W hi mh) : JE X W (.Subscript e (.Slice lo hi none p2) pos) (mSl m ml mh) := by
  refine PE.imp (pe_slice sl_X h hl hh) fun σ H Q h => ?_
  obtain ⟨w, rfl, rfl, r, h⟩ := h
  refine run r h fun d s' G' v H' g r' p h' => ?_
  refine run r' h' fun l s2 G2 l2 H2 g2 r2 e2 h2 => ?_
  cases e2
  refine run r2 h2 fun u s3 G3 u3 H3 g3 r3 e3 h3 => ?_
  cases e3
  cases hz : cutD d l u with
  | none => rw [hz] at h3; exact h3.elim
  | some z =>
    rw [hz] at h3
    exact k_sl r3 (.inl (p.mono (g2.trans g3))) hz fun G4 v4 H4 g4 r4 p4 => h3 G4 v4 H4 g4 r4 p4
theorem je_slN (i : Nat) {x : Str} {p : Pos} (hl : JO X W lo ml) (hh : JO X W hi mh) (hN : X.N[i]? = some x := by rfl) (hv : Vis X.env.scope x := by first | exact Or.inl rfl | exact Or.inr (Or.inl rfl) | exact Or.inr (Or.inr rfl)) (hd : (x == ("__debug__" : Str)) = false := by decide) (hcd : (x == ("__classdict__" : Str)) = false := by decide) :
    JE X W (.Subscript (.Name x p) (.Slice lo hi none p2) pos) (mSlN i ml mh) := by
  refine PE.imp (pe_slice sl_X (pv i hN hv hd hcd) hl hh) fun σ H Q h => ?_
  obtain ⟨w, rfl, rfl, r, h⟩ := h
  unfold mSlN at h
  cases hc : cur w.s i with
  | none => simp only [hc] at h; exact h.elim
  | some d0 =>
    simp only [hc] at h
    obtain ⟨v, h1, _⟩ := slot_val r hc
    refine ⟨v, h1, ?_⟩
    refine run r h fun l s2 G2 l2 H2 g2 r2 e2 h2 => ?_
    cases e2
    refine run r2 h2 fun u s3 G3 u3 H3 g3 r3 e3 h3 => ?_
    cases e3
    cases hc2 : cur s3 i with
    | none => simp only [hc2] at h3; exact h3.elim
    | some d =>
      simp only [hc2] at h3
      obtain ⟨v2, h4, h5⟩ := slot_val r3 hc2
      have h4 : w.σ[i]? = some (some v2) := h4
      rw [h1] at h4
      cases h4
      cases hz : cutD d l u with
      | none => rw [hz] at h3; exact h3.elim
      | some z =>
        rw [hz] at h3
        exact k_sl r3 h5 hz fun G4 v4 H4 g4 r4 p4 => h3 G4 v4 H4 g4 r4 p4
end
end DL

namespace DL
open PySem PySem.Spec L2

/-! ### a list of one's own: append, pop, xs[i] = e -/
/-- xs.append(e), xs in slot i -/
def mApp (i : Nat) (m : ME) : ME := fun s => match s.sl[i]? with
  | some (.own _) => bnd m (fun d s => match s.sl[i]? with
    | some (.own ds) => if few (ds.length + 1) then .ok .non (s.put i (.own (ds ++ [d]))) else .stuck
    | _ => .stuck) s
  | _ => .stuck
def mPop (i : Nat) : ME := fun s => match s.sl[i]? with
  | some (.own ds) => match ds[ds.length - 1]? with
    | some d => .ok d (s.put i (.own ds.dropLast))
    | none => .stuck
  | _ => .stuck
def mPopAt (i : Nat) (m : ME) : ME := fun s => match s.sl[i]? with
  | some (.own _) => bnd m (fun d s => match s.sl[i]?, d with
    | some (.own ds), .int j => if -(2 ^ 63) ≤ j ∧ j < 2 ^ 63 then (match seqIndex? j ds.length with
      | some k => (match ds[k]? with
        | some z => .ok z (s.put i (.own (ds.eraseIdx k)))
        | none => .stuck)
      | none => .stuck) else .stuck
    | _, _ => .stuck) s
  | _ => .stuck
/-- xs[k] = e -/
def mSetIx (i : Nat) (mk mv : ME) : MS := bnd mv fun v => bnd (fun s => match s.sl[i]? with | some (.own _) => mk s | _ => .stuck) fun k s => match s.sl[i]?, k with
  | some (.own ds), .int j => (match ixN ds.length j with
    | some n => .ok .nx (s.put i (.own (ds.set n v)))
    | none => .stuck)
  | _, _ => .stuck
theorem Reps.dropLast {K : PySem.W.Frag} {G : Gh} {vs : List V} {ds : List D} (r : Reps K G vs ds) : Reps K G vs.dropLast ds.dropLast := by
  rw [List.dropLast_eq_take, List.dropLast_eq_take, r.length]
  exact r.take _
theorem Reps.erase {K : PySem.W.Frag} {G : Gh} {vs : List V} {ds : List D} (r : Reps K G vs ds) (k : Nat) : Reps K G (vs.eraseIdx k) (ds.eraseIdx k) := by
  rw [List.eraseIdx_eq_take_drop_succ, List.eraseIdx_eq_take_drop_succ]
  exact (r.take k).append (r.drop (k + 1))
section
variable {X : Cx} {W : WX} {e : Expr} {m : ME} {i : Nat} {x : Str} {p apos cpos pos : Pos}
theorem je_app (h : JE X W e m) (hN : X.N[i]? = some x := by rfl) (hv : Vis X.env.scope x := by first | exact Or.inl rfl | exact Or.inr (Or.inl rfl) | exact Or.inr (Or.inr rfl)) (hd : (x == ("__debug__" : Str)) = false := by decide) (hcd : (x == ("__classdict__" : Str)) = false := by decide)
    (hbase : attributeBase (.Name x p) "append" X.env (eval (.Name x p) X.env) = eval (.Name x p) X.env := by rfl)
    (hfew : ((backTo cpos (starEach [e] X.env)).all (fun x => !x.1) && (backToKw cpos (keywordEach [] X.env)).all (fun x => x.1.isSome) && decide ([e].length + ([] : List Keyword).length + (if ([] : List Keyword).isEmpty then 0 else 1) < 30)) = true := by rfl)
    (hline : (apos.endLine == cpos.line) = true := by rfl) (hs : starEach [e] X.env = (false, eval e X.env) :: starEach [] X.env := by rfl) (hplain : (backTo cpos (starEach [] X.env)).any (·.1) = false := by rfl) :
    JE X W (.Call (.Attribute (.Name x p) "append" apos) [e] [] cpos) (mApp i m) := by
  refine PE.imp (pe_bm PySem.F.plainAttrs_list PySem.F.slot_list_append PySem.F.type_list_append mt_append (pv i hN hv hd hcd) (pa_cons h pa_nil hs) hbase hfew hline hs hplain) fun σ H Q h => ?_
  obtain ⟨w, rfl, rfl, r, h⟩ := h
  unfold mApp at h
  split at h
  · rename_i ds0 hs0
    obtain ⟨a, vs, z1, z2, z3, _⟩ := r.sl.own i _ hs0
    refine ⟨_, z1, .inl ⟨rfl, vs, SqL.of z2⟩, ?_⟩
    refine run r h fun d s' G' v H' g r' p h' => ?_
    split at h'
    · rename_i ds hs1
      split at h'
      · rename_i hf
        obtain ⟨b, us, y1, y2, y3, _⟩ := r'.sl.own i _ hs1
        have y1 : w.σ[i]? = some (some (.ref b)) := y1
        rw [z1] at y1; cases y1
        refine ⟨_, us, v, rfl, rfl, y2, ?_, ?_⟩
        · rw [y3.length]; exact hf.line
        · exact h' _ _ _ (.refl _) (r'.mut hs1 z1 (y3.append (.cons p .nil))) .non
      · exact h'.elim
    · exact h'.elim
  · exact h.elim
theorem je_pop (hN : X.N[i]? = some x := by rfl) (hv : Vis X.env.scope x := by first | exact Or.inl rfl | exact Or.inr (Or.inl rfl) | exact Or.inr (Or.inr rfl)) (hd : (x == ("__debug__" : Str)) = false := by decide) (hcd : (x == ("__classdict__" : Str)) = false := by decide)
    (hbase : attributeBase (.Name x p) "pop" X.env (eval (.Name x p) X.env) = eval (.Name x p) X.env := by rfl) (hline : (apos.endLine == cpos.line) = true := by rfl) :
    JE X W (.Call (.Attribute (.Name x p) "pop" apos) [] [] cpos) (mPop i) := by
  refine PE.imp (pe_bm0 PySem.F.plainAttrs_list PySem.F.slot_list_pop PySem.F.type_list_pop mt_pop (pv i hN hv hd hcd) hbase hline) fun σ H Q h => ?_
  obtain ⟨w, rfl, rfl, r, h⟩ := h
  unfold mPop at h
  split at h
  · rename_i ds hs0
    obtain ⟨a, vs, z1, z2, z3, _⟩ := r.sl.own i _ hs0
    split at h
    · rename_i d hd
      obtain ⟨v, v1, v2⟩ := z3.get hd
      refine ⟨_, z1, .inl ⟨rfl, vs, SqL.of z2⟩, a, vs, v, rfl, rfl, z2, by rw [z3.length]; exact v1, ?_⟩
      exact h _ _ _ (.refl _) (r.mut hs0 z1 z3.dropLast) v2
    · exact h.elim
  · exact h.elim
theorem je_popAt (h : JE X W e m) (hN : X.N[i]? = some x := by rfl) (hv : Vis X.env.scope x := by first | exact Or.inl rfl | exact Or.inr (Or.inl rfl) | exact Or.inr (Or.inr rfl)) (hd : (x == ("__debug__" : Str)) = false := by decide) (hcd : (x == ("__classdict__" : Str)) = false := by decide)
    (hbase : attributeBase (.Name x p) "pop" X.env (eval (.Name x p) X.env) = eval (.Name x p) X.env := by rfl)
    (hfew : ((backTo cpos (starEach [e] X.env)).all (fun x => !x.1) && (backToKw cpos (keywordEach [] X.env)).all (fun x => x.1.isSome) && decide ([e].length + ([] : List Keyword).length + (if ([] : List Keyword).isEmpty then 0 else 1) < 30)) = true := by rfl)
    (hline : (apos.endLine == cpos.line) = true := by rfl) (hs : starEach [e] X.env = (false, eval e X.env) :: starEach [] X.env := by rfl) (hplain : (backTo cpos (starEach [] X.env)).any (·.1) = false := by rfl) :
    JE X W (.Call (.Attribute (.Name x p) "pop" apos) [e] [] cpos) (mPopAt i m) := by
  refine PE.imp (pe_bm PySem.F.plainAttrs_list PySem.F.slot_list_pop PySem.F.type_list_pop mt_popAt (pv i hN hv hd hcd) (pa_cons h pa_nil hs) hbase hfew hline hs hplain) fun σ H Q h => ?_
  obtain ⟨w, rfl, rfl, r, h⟩ := h
  unfold mPopAt at h
  split at h
  · rename_i ds0 hs0
    obtain ⟨a, vs, z1, z2, z3, _⟩ := r.sl.own i _ hs0
    refine ⟨_, z1, .inl ⟨rfl, vs, SqL.of z2⟩, ?_⟩
    refine run r h fun d s' G' v H' g r' p h' => ?_
    split at h'
    · rename_i ds j hs1
      split at h'
      · rename_i hj
        split at h'
        · rename_i k hk
          split at h'
          · rename_i z hz
            obtain ⟨b, us, y1, y2, y3, _⟩ := r'.sl.own i _ hs1
            have y1 : w.σ[i]? = some (some (.ref b)) := y1
            rw [z1] at y1; cases y1
            obtain ⟨u, u1, u2⟩ := y3.get hz
            cases p
            refine ⟨_, us, j, k, u, rfl, rfl, y2, hj.1, hj.2, by rw [y3.length]; exact hk, u1, ?_⟩
            exact h' _ _ _ (.refl _) (r'.mut hs1 z1 (y3.erase k)) u2
          · exact h'.elim
        · exact h'.elim
      · exact h'.elim
    · exact h'.elim
  · exact h.elim
theorem js_setIx {k : Expr} {mk : ME} {spos : Pos} (hv : JE X W e m) (hk : JE X W k mk) (hN : X.N[i]? = some x := by rfl) (hvis : Vis X.env.scope x := by first | exact Or.inl rfl | exact Or.inr (Or.inl rfl) | exact Or.inr (Or.inr rfl)) (hd : (x == ("__debug__" : Str)) = false := by decide) (hcd : (x == ("__classdict__" : Str)) = false := by decide)
    (ha : ∀ v, assign (.Subscript (.Name x p) k pos) X.env v = (do
      let ov ← holding [v] (eval (.Name x p) X.env)
      let iv ← holding [v, ov] (eval k X.env)
      standAt pos
      holding [v, ov, iv] (setItem ov iv v)
      release [v, ov, iv] []) := by intro _; rfl) (hs : swapsWithSole [.Subscript (.Name x p) k pos] e spos.line X.env = pure false := by rfl) (hw : swappedStores [.Subscript (.Name x p) k pos] e X.env = pure none := by rfl)
    (h1 : (assignEach [.Subscript (.Name x p) k pos] X.env).map (·.2) = [assign (.Subscript (.Name x p) k pos) X.env] := by rfl) : JS X W (.Assign [.Subscript (.Name x p) k pos] e spos) (mSetIx i mk m) := by
  refine PS.imp (ps_asg hv (pg_sub (pv i hN hvis hd hcd) hk set_list ha) hs hw h1) fun D σ H h => ?_
  obtain ⟨w, rfl, rfl, r, h⟩ := h
  refine runS r h fun d s' G' v H' g r' p h' => ?_
  cases hx : s'.sl[i]? with
  | none => simp only [bnd, hx] at h'; exact h'.elim
  | some sl =>
    cases sl with
    | own ds0 =>
      obtain ⟨a, vs, z1, z2, z3, _⟩ := r'.sl.own i _ hx
      refine ⟨_, z1, ?_⟩
      have h2 : okS X.K X.pn W { w with G := G', H := H', s := s' } D (bnd mk (fun k s => match s.sl[i]?, k with | some (.own ds), .int j => (match ixN ds.length j with | some n => .ok .nx (s.put i (.own (ds.set n d))) | none => .stuck) | _, _ => .stuck) s') := by
        unfold bnd at h'
        simp only [hx] at h'
        exact h'
      refine runS r' h2 fun k2 s2 G2 v2 H2 g2 r2 p2 h3 => ?_
      dsimp only at h3
      split at h3
      · rename_i ds j hs1
        split at h3
        · rename_i n hn
          obtain ⟨b, us, y1, y2, y3, _⟩ := r2.sl.own i _ hs1
          have y1 : w.σ[i]? = some (some (.ref b)) := y1
          have z1 : w.σ[i]? = some (some (.ref a)) := z1
          rw [z1] at y1; cases y1
          cases p2
          refine ⟨_, us, j, n, rfl, rfl, y2, by rw [y3.length]; exact hn, ?_⟩
          exact h3 _ _ _ (.refl _) (r2.mut hs1 z1 (Reps.set (p.mono g2) n y3))
        · exact h3.elim
      · exact h3.elim
    | _ => simp only [bnd, hx] at h'; exact h'.elim
end

/-! ### comprehensions -/
/-- no caught error stands in a slot -/
def noX (s : S) : Bool := s.sl.all fun x => match x with | .xn _ => false | _ => true
theorem SlRel.pn {K : PySem.W.Frag} {pn pn' : List (Addr × Obj)} {H0 : Hp} {G : Gh} {σ : L2.St} {H : Hp} {s : S} (h : SlRel K pn H0 G σ H s.sl) (n : noX s = true) : SlRel K pn' H0 G σ H s.sl :=
  ⟨h.len, h.imm, h.own, h.dis, fun i x e => by
    have := List.all_eq_true.mp n _ (List.mem_of_getElem? e)
    cases this⟩
theorem Rel.pn {K : PySem.W.Frag} {pn pn' : List (Addr × Obj)} {w : Wd} (r : Rel K pn w) (n : noX w.s = true) : Rel K pn' w := ⟨r.ex, r.le, r.st, r.sl.pn n, r.pr⟩
def wipeS (s : S) : List Nat → S
  | [] => s
  | v :: vs => (wipeS s vs).put v .emp
theorem wipeS_st (s : S) : ∀ vs, (wipeS s vs).st = s.st
  | [] => rfl
  | v :: vs => wipeS_st s vs
theorem Rel.wipe {K : PySem.W.Frag} {pn : List (Addr × Obj)} {w : Wd} (r : Rel K pn w) : ∀ vs : List Nat, Rel K pn { w with σ := L2.wipe w.σ vs, s := wipeS w.s vs }
  | [] => r
  | v :: vs => Rel.clr (i := v) (v := none) (Rel.wipe r vs)
/-- the turns: what is made so far, the items left -/
def lcs (g : MG) (t : MT) (m : ME) (vs : List Nat) : List D → List D → MA
  | acc, [] => fun s => .ok acc s
  | acc, d :: ds => fun s => match g d with
    | none => .stuck
    | some l => match t (s.puts l) with
      | .ok b s1 => if b then (match m s1 with
          | .ok z s2 => if few (acc.length + 1) ∧ noX s2 = true then lcs g t m vs (acc ++ [z]) ds (wipeS s2 vs) else .stuck
          | _ => .stuck) else if noX s1 = true then lcs g t m vs acc ds (wipeS s1 vs) else .stuck
      | _ => .stuck
/-- [m for g in it if t]; vs: the own names' slots -/
def mLc (it : MA) (g : MG) (t : MT) (m : ME) (vs : List Nat) : MA := bnd it fun ds s => if noX s = true then lcs g t m vs [] ds (wipeS s vs) else .stuck
abbrev WF : WX := fun _ _ _ _ => False
def mYes : MT := ret true
def JTs (X : Cx) (W : WX) (ifs : List Expr) (t : MT) : Prop := PTs X ifs (tG X.K X.pn W AB t)
theorem PTs.imp {X : Cx} {e : List Expr} {t t' : TT} (h : PTs X e t) (i : ∀ σ H Q, t' σ H Q → t σ H Q) : PTs X e t' := ⟨fun pins s σ H Q I q => h.run pins s σ H Q I (i _ _ _ q)⟩
section
variable {X : Cx} {W : WX}
theorem jts_nil : JTs X W [] mYes := by
  refine PTs.imp pts_nil fun σ H Q h => ?_
  obtain ⟨w, rfl, rfl, r, h⟩ := h
  exact fin r h rfl
theorem jts_one {c : Expr} {t : MT} (h : JT X W c t) : JTs X W [c] t := pts_one h
theorem Rel.prPush {K : PySem.W.Frag} {pn : List (Addr × Obj)} {w : Wd} (r : Rel K pn w) {p : Addr} {o : HO} (hp : w.H p = none) (ho : isT o = false := by rfl) : Rel K pn { w with H := upd w.H p o, pr := (p, o) :: w.pr } := by
  have r1 := r.alloc (o := o) hp
  refine ⟨r1.ex, r1.le, r1.st, r1.sl, fun q hq => ?_⟩
  rcases List.mem_cons.mp hq with e | e
  · subst e
    exact ⟨upd_same, r.noF hp, ⟨r.noA hp, ho⟩, r.no0 hp, r.noS hp⟩
  · exact r1.pr q e
theorem Rel.prPut {K : PySem.W.Frag} {pn : List (Addr × Obj)} {w : Wd} {p : Addr} {o o' : HO} {l : List (Addr × HO)} (r : Rel K pn w) (e : w.pr = (p, o) :: l) (hl : ∀ q ∈ l, q.1 ≠ p) (ho : isT o' = false := by rfl) : Rel K pn { w with H := upd w.H p o', pr := (p, o') :: l } := by
  have m : (p, o) ∈ w.pr := by rw [e]; exact List.mem_cons_self
  obtain ⟨p1, p2, p3, p4, p5⟩ := r.pr (p, o) m
  dsimp only at p1 p2 p3 p4 p5
  refine ⟨fun a u h => ?_, ⟨r.le.g, r.le.nw, r.le.fz, fun a u h n => ?_, fun a u h => ?_⟩, ⟨r.st.len, fun n a u h1 h2 => (r.st.at_ n a u h1 h2).mono (.refl _) fun x h => ?_, r.st.nof, r.st.nd⟩, ⟨r.sl.len, r.sl.imm, fun i ds h => ?_, r.sl.dis, r.sl.xn⟩, fun q hq => ?_⟩
  · have h : w.G.F a = some u := h
    exact (upd_ne (show a ≠ p from fun z => by rw [z, p2] at h; cases h)).trans (r.ex a u h)
  · have h : w.H0 a = some u := h
    exact (upd_ne (show a ≠ p from fun z => by rw [z, p4] at h; cases h)).trans (r.le.kp a u h n)
  · obtain ⟨u', h'⟩ := r.le.dm a u h
    by_cases z : a = p
    · exact ⟨o', by subst z; exact upd_same⟩
    · exact ⟨u', (upd_ne z).trans h'⟩
  · have ma : a ∈ w.G.ad := List.mem_of_getElem? h1
    exact (upd_ne (show a ≠ p from fun z => p3.1 (z ▸ ma))).trans h
  · obtain ⟨a, vs, h1, h2, h3⟩ := r.sl.own i ds h
    exact ⟨a, vs, h1, (upd_ne (show a ≠ p from fun z => p5 i ds h (z ▸ h1))).trans h2, h3⟩
  · rcases List.mem_cons.mp hq with z | z
    · subst z
      exact ⟨upd_same, p2, ⟨p3.1, ho⟩, p4, p5⟩
    · obtain ⟨q1, q2⟩ := r.pr q (by rw [e]; exact List.mem_cons_of_mem _ z)
      exact ⟨(upd_ne (hl q z)).trans q1, q2⟩
theorem Rel.prPop {K : PySem.W.Frag} {pn : List (Addr × Obj)} {w : Wd} {p : Addr} {vs : List V} {ds : List D} {l : List (Addr × HO)} (r : Rel K pn w) (e : w.pr = (p, .lst vs) :: l) (hl : ∀ q ∈ l, q.1 ≠ p) (h : Reps K w.G vs ds) : Rel K pn { w with pr := l } ∧ AF K { w with pr := l } (.ref p) ds := by
  have m : (p, HO.lst vs) ∈ w.pr := by rw [e]; exact List.mem_cons_self
  obtain ⟨p1, p2, p3, p4, p5⟩ := r.pr _ m
  exact ⟨⟨r.ex, r.le, r.st, r.sl, fun q hq => r.pr q (by rw [e]; exact List.mem_cons_of_mem _ hq)⟩, p, vs, rfl, p1, h, p2, p3.1, p4, p5, hl⟩
theorem wipeS_emp {s : S} : ∀ {vs : List Nat} {v : Nat} {x : Slot}, v ∈ vs → (wipeS s vs).sl[v]? = some x → x = .emp
  | [], _, _, h, _ => by cases h
  | u :: vs, v, x, h, e => by
    have e : ((wipeS s vs).sl.set u .emp)[v]? = some x := e
    rcases set_get e with ⟨e1, e2⟩ | ⟨e1, e2⟩
    · exact e2
    · rcases List.mem_cons.mp h with z | z
      · exact (e1 z).elim
      · exact wipeS_emp z e2
theorem wipeS_len (s : S) : ∀ vs, (wipeS s vs).sl.length = s.sl.length
  | [] => rfl
  | v :: vs => by
    show ((wipeS s vs).sl.set v .emp).length = _
    rw [List.length_set, wipeS_len s vs]
/-- back from the block: the own names' slots are empty, the others are as they were -/
theorem Rel.unwipe {K : PySem.W.Frag} {pn : List (Addr × Obj)} {w : Wd} {σ : L2.St} {s : S} {vs : List Nat} (r : Rel K pn { w with σ := L2.wipe σ vs, s := wipeS s vs }) : Rel K pn { w with σ := σ, s := wipeS s vs } := by
  have ag : ∀ (i : Nat) (x : Slot), (wipeS s vs).sl[i]? = some x → x ≠ Slot.emp → (L2.wipe σ vs)[i]? = σ[i]? := fun i x h hx => wipe_out fun hi => hx (wipeS_emp hi h)
  refine ⟨r.ex, r.le, r.st, ⟨?_, fun i d h => ?_, fun i ds h => ?_, fun i j ds es a h1 h2 h3 h4 => ?_, fun i x h => ?_⟩, fun q hq => ?_⟩
  · have := r.sl.len
    dsimp only at this ⊢
    rw [wipe_length] at this
    exact this
  · obtain ⟨v, h1, h2⟩ := r.sl.imm i d h
    exact ⟨v, (ag i _ h (by simp)).symm.trans h1, h2⟩
  · obtain ⟨a, us, h1, h2⟩ := r.sl.own i ds h
    exact ⟨a, us, (ag i _ h (by simp)).symm.trans h1, h2⟩
  · exact r.sl.dis i j ds es a h1 h2 ((ag i _ h1 (by simp)).trans h3) ((ag j _ h2 (by simp)).trans h4)
  · obtain ⟨a, oe, tl, cls, d, h1, h2, h3⟩ := r.sl.xn i x h
    exact ⟨a, oe, tl, cls, d, h1, (ag i _ h (by simp)).symm.trans h2, h3⟩
  · obtain ⟨p1, p2, p3, p4, p5⟩ := r.pr q hq
    exact ⟨p1, p2, p3, p4, fun i es h1 h2 => p5 i es h1 ((ag i _ h1 (by simp)).trans h2)⟩
theorem wipe_wipe {σ : L2.St} {vs : List Nat} : L2.wipe (L2.wipe σ vs) vs = L2.wipe σ vs := by
  apply List.ext_getElem?
  intro i
  by_cases hi : i ∈ vs
  · have key : ∀ (vs : List Nat) (σ : L2.St), i ∈ vs → i < σ.length → (L2.wipe σ vs)[i]? = some none := by
      intro vs
      induction vs with
      | nil => intro σ h; cases h
      | cons v vs ih =>
        intro σ h hl
        unfold L2.wipe
        by_cases e : v = i
        · subst e
          rw [List.getElem?_set_self (by rw [wipe_length]; exact hl)]
        · rw [List.getElem?_set_ne e]
          rcases List.mem_cons.mp h with z | z
          · exact (e z.symm).elim
          · exact ih σ z hl
    by_cases hl : i < σ.length
    · rw [key vs _ hi (by rw [wipe_length]; exact hl), key vs σ hi hl]
    · rw [List.getElem?_eq_none (by rw [wipe_length, wipe_length]; omega), List.getElem?_eq_none (by rw [wipe_length]; omega)]
  · rw [wipe_out hi]
section
variable {elt tg iter : Expr} {ifs : List Expr} {scope : Scope} {own : List (Str × Nat)} {pos : Pos} {it : MA} {g : MG} {ix : List Nat} {t : MT} {m : ME}
theorem lc_run {σ : L2.St} {H : Hp} {Q : VK} {vs : List Nat} (hix : ∀ i ∈ ix, i ∈ vs) (hgx : ∀ d l, g d = some l → ∀ p ∈ l, p.1 ∈ ix) (h : tG X.K X.pn W (AF X.K) (mLc it g t m vs) σ H Q) :
    tLc (tG X.K X.pn W (AI X.K) it) (tTg X.K g) (tG X.K [] WF AB t) (tG X.K [] WF (AR X.K) m) vs σ H Q := by
  obtain ⟨w, rfl, rfl, r, h⟩ := h
  refine run r h fun ds s' G' J H' g' r' I h' => ?_
  intro L hL
  split at h'
  · rename_i hx
    -- the block begins
    have r0 : Rel X.K [] { w with G := G', σ := L2.wipe w.σ vs, H := upd H' L (.lst []), s := wipeS s' vs, pr := (L, .lst []) :: w.pr } := Rel.prPush (w := { w with G := G', σ := L2.wipe w.σ vs, H := H', s := wipeS s' vs }) (Rel.wipe (Rel.pn r' hx) vs) hL
    have hl : ∀ q ∈ w.pr, q.1 ≠ L := fun q hq => Rel.noP r' hL q hq
    refine ⟨fun i mm H => mm = ds.length - i ∧ i ≤ ds.length ∧ ∃ (G2 : Gh) (s2 : S) (acc : List D) (us : List V), G'.le G2 ∧ Rel X.K [] { w with G := G2, σ := L2.wipe w.σ vs, H := H, s := wipeS s2 vs, pr := (L, .lst us) :: w.pr } ∧ Reps X.K G2 us acc ∧
      noX (wipeS s2 vs) = true ∧ okG X.K X.pn W (AF X.K) { w with G := G2, H := H, s := wipeS s2 vs } Q (lcs g t m vs acc (ds.drop i) (wipeS s2 vs)), ⟨_, rfl, Nat.zero_le _, G', s', [], [], .refl _, r0, .nil, ?_, okG.up (w := { w with G := G', H := H', s := s' }) h' (.refl _)⟩, ?_⟩
    · -- no error stands there
      refine List.all_eq_true.mpr fun x hxm => ?_
      obtain ⟨i, hi⟩ := List.mem_iff_getElem?.mp hxm
      by_cases hv : i ∈ vs
      · rw [wipeS_emp hv hi]
      · have key : ∀ (vs : List Nat), i ∉ vs → (wipeS s' vs).sl[i]? = s'.sl[i]? := by
          intro vs
          induction vs with
          | nil => intro _; rfl
          | cons v vs ih =>
            intro hn
            simp only [List.mem_cons, not_or] at hn
            show ((wipeS s' vs).sl.set v .emp)[i]? = _
            rw [List.getElem?_set_ne (Ne.symm hn.1), ih hn.2]
        rw [key vs hv] at hi
        exact List.all_eq_true.mp hx _ (List.mem_of_getElem? hi)
    · rintro i mm H2 ⟨rfl, hi, G2, s2, acc, us, g2, r2, rs, hx2, h2⟩
      by_cases hlt : i < ds.length
      · have hd : ds[i]? = some ds[i] := List.getElem?_eq_getElem hlt
        have ed : ds.drop i = ds[i] :: ds.drop (i + 1) := List.drop_eq_getElem_cons hlt
        rw [ed] at h2
        refine .inr ⟨I.go _ _ r2 g2 i hlt, fun H => ∃ (G2 : Gh) (s2 : S) (acc : List D) (us : List V), G'.le G2 ∧ Rel X.K [] { w with G := G2, σ := L2.wipe w.σ vs, H := H, s := wipeS s2 vs, pr := (L, .lst us) :: w.pr } ∧ Reps X.K G2 us acc ∧
            noX (wipeS s2 vs) = true ∧ okG X.K X.pn W (AF X.K) { w with G := G2, H := H, s := wipeS s2 vs } Q (lcs g t m vs acc (ds.drop (i + 1)) (wipeS s2 vs)), fun H' hw => ⟨_, by omega, rfl, hlt, hw⟩, fun x H3 y => ?_⟩
        obtain ⟨G3, g3, r3, p3⟩ := I.yld _ _ r2 g2 i _ x H3 hd y
        have h2' := h2
        unfold lcs at h2'
        cases hl2 : g ds[i] with
        | none => simp only [hl2] at h2'; exact h2'.elim
        | some l =>
          simp only [hl2] at h2'
          refine ⟨[], _, ds[i], l, rfl, r3, p3, hl2, fun lv hv => ?_⟩
          have hlv : ∀ p ∈ lv, p.1 ∈ vs := by
            intro p hp
            have : ∀ {lv : List (Nat × V)} {l : List (Nat × D)}, RepU X.K G3 lv l → ∀ p ∈ lv, ∃ q ∈ l, q.1 = p.1 := by
              intro lv l h
              induction h with
              | nil => intro p hp; cases hp
              | cons a _ ih =>
                intro p hp
                rcases List.mem_cons.mp hp with z | z
                · subst z; exact ⟨_, List.mem_cons_self, a.1.symm⟩
                · obtain ⟨q, q1, q2⟩ := ih p z
                  exact ⟨q, List.mem_cons_of_mem _ q1, q2⟩
            obtain ⟨q, q1, q2⟩ := this hv p hp
            rw [← q2]
            exact hix _ (hgx _ _ hl2 q q1)
          refine ⟨by rw [wipe_upds hlv, wipe_wipe], ?_⟩
          have r4 := Rel.sets r3 hv
          -- the test
          cases ht : t ((wipeS s2 vs).puts l) with
          | exc y s5 => simp only [ht] at h2'; exact h2'.elim
          | stuck => simp only [ht] at h2'; exact h2'.elim
          | ok b s5 =>
            simp only [ht] at h2'
            refine ⟨_, rfl, rfl, r4, ?_⟩
            show okG X.K [] WF AB _ _ (t ((wipeS s2 vs).puts l))
            rw [ht]
            intro G5 b5 H5 g5 r5 e5
            subst e5
            have wσ : L2.wipe (upds (L2.wipe w.σ vs) lv) vs = L2.wipe w.σ vs := by rw [wipe_upds hlv, wipe_wipe]
            cases b5 with
            | false =>
              simp only [Bool.false_eq_true, if_false] at h2' ⊢
              split at h2'
              · rename_i hx5
                have r6 := Rel.wipe (w := { w with G := G5, σ := upds (L2.wipe w.σ vs) lv, H := H5, s := s5, pr := (L, .lst us) :: w.pr }) r5 vs
                dsimp only at r6
                rw [wσ] at r6
                refine ⟨G5, s5, acc, us, (g2.trans g3).trans g5, r6, rs.mono (g3.trans g5), ?_, ?_⟩
                · refine List.all_eq_true.mpr fun x hxm => ?_
                  obtain ⟨i, hi⟩ := List.mem_iff_getElem?.mp hxm
                  by_cases hv2 : i ∈ vs
                  · rw [wipeS_emp hv2 hi]
                  · have key : ∀ (vs : List Nat), i ∉ vs → (wipeS s5 vs).sl[i]? = s5.sl[i]? := by
                      intro vs
                      induction vs with
                      | nil => intro _; rfl
                      | cons v vs ih =>
                        intro hn
                        simp only [List.mem_cons, not_or] at hn
                        show ((wipeS s5 vs).sl.set v .emp)[i]? = _
                        rw [List.getElem?_set_ne (Ne.symm hn.1), ih hn.2]
                    rw [key vs hv2] at hi
                    exact List.all_eq_true.mp hx5 _ (List.mem_of_getElem? hi)
                · exact okG.up (w := { w with G := G2, H := H2, s := wipeS s2 vs }) h2' (g3.trans g5)
              · exact h2'.elim
            | true =>
              simp only [if_true] at h2' ⊢
              cases hm : m s5 with
              | exc y s6 => simp only [hm] at h2'; exact h2'.elim
              | stuck => simp only [hm] at h2'; exact h2'.elim
              | ok z s6 =>
                simp only [hm] at h2'
                split at h2'
                · rename_i hf
                  refine ⟨_, rfl, rfl, r5, ?_⟩
                  show okG X.K [] WF (AR X.K) _ _ (m s5)
                  rw [hm]
                  intro G6 y H6 g6 r6 p6
                  have hH : H6 L = some (.lst us) := (r6.pr (L, .lst us) List.mem_cons_self).1
                  refine ⟨us, hH, ?_, ?_⟩
                  · rw [rs.length]; exact hf.1.line
                  · have r7 := Rel.prPut (o' := .lst (us ++ [y])) r6 rfl hl
                    have r8 := Rel.wipe r7 vs
                    dsimp only at r8
                    rw [wσ] at r8
                    refine ⟨G6, s6, acc ++ [z], us ++ [y], ((g2.trans g3).trans g5).trans g6, r8, (rs.mono ((g3.trans g5).trans g6)).append (.cons p6 .nil), ?_, ?_⟩
                    · refine List.all_eq_true.mpr fun x hxm => ?_
                      obtain ⟨i, hi⟩ := List.mem_iff_getElem?.mp hxm
                      by_cases hv2 : i ∈ vs
                      · rw [wipeS_emp hv2 hi]
                      · have key : ∀ (vs : List Nat), i ∉ vs → (wipeS s6 vs).sl[i]? = s6.sl[i]? := by
                          intro vs
                          induction vs with
                          | nil => intro _; rfl
                          | cons v vs ih =>
                            intro hn
                            simp only [List.mem_cons, not_or] at hn
                            show ((wipeS s6 vs).sl.set v .emp)[i]? = _
                            rw [List.getElem?_set_ne (Ne.symm hn.1), ih hn.2]
                        rw [key vs hv2] at hi
                        exact List.all_eq_true.mp hf.2 _ (List.mem_of_getElem? hi)
                    · exact okG.up (w := { w with G := G2, H := H2, s := wipeS s2 vs }) h2' ((g3.trans g5).trans g6)
                · exact h2'.elim
      · have e : i = ds.length := by omega
        subst e
        rw [List.drop_length] at h2
        refine .inl ⟨I.stop _ _ r2 g2 _ (Nat.le_refl _), ?_⟩
        obtain ⟨r9, a9⟩ := Rel.prPop r2 rfl hl rs
        have r10 := Rel.unwipe (w := { w with G := G2, H := H2 }) (σ := w.σ) (s := s2) (vs := vs) r9
        have a10 : AF X.K { w with G := G2, H := H2, s := wipeS s2 vs } (.ref L) acc := by
          obtain ⟨a, us', e1, e2, e3, e4, e5, e6, e7, e8⟩ := a9
          refine ⟨a, us', e1, e2, e3, e4, e5, e6, fun i es q1 q2 => ?_, e8⟩
          have : i ∉ vs := fun hi => by cases wipeS_emp hi q1
          exact e7 i es q1 ((wipe_out this).trans q2)
        exact h2 G2 _ H2 (.refl _) (Rel.pn r10 hx2) a10
  · exact h'.elim
/-- [elt for tg in iter if ..] -/
theorem jf_lc (hc : X.calm = true) (hN : X.N.Nodup) (hi : JI X W tg iter it) (ok : BlkOk X.N X.env.scope scope own)
    (hg : ∀ (s : Shared) (H : Hp) (C : Addr) (cl : List (Str × Addr)) (fp : List Addr), JG (X.blk s H scope (compEnvC scope cl C X.env) fp) tg g ix) (ht : ∀ (s : Shared) (H : Hp) (C : Addr) (cl : List (Str × Addr)) (fp : List Addr), JTs (X.blk s H scope (compEnvC scope cl C X.env) fp) WF ifs t)
    (he : ∀ (s : Shared) (H : Hp) (C : Addr) (cl : List (Str × Addr)) (fp : List Addr), JE (X.blk s H scope (compEnvC scope cl C X.env) fp) WF elt m) (hix : ∀ i ∈ ix, i ∈ own.map (·.2) := by decide) (hs : ∀ x, foldedSetIterable iter X.env x = pure x := by intro _; rfl) :
    JF X W (.ListComp elt [⟨tg, iter, ifs, 0⟩] scope pos) (mLc it g t m (own.map (·.2))) := by
  have hgx : ∀ d l, g d = some l → ∀ p ∈ l, p.1 ∈ ix := (hg (X.s_0) (X.H_0) 0 [] []).ix
  exact PE.imp (pe_lc (g := tTg X.K g) (tt := tG X.K [] WF AB t) (te := tG X.K [] WF (AR X.K) m) hc hN hi ok (fun s H C cl fp => (hg s H C cl fp).pg) (fun s H C cl fp => ht s H C cl fp) (fun s H C cl fp => he s H C cl fp) hs) fun σ H Q h => lc_run hix hgx h
/-- y = [elt for tg in iter if ..], on one line -/
theorem js_lc {i : Nat} {y : Str} {py spos : Pos} (hc : X.calm = true) (hN : X.N.Nodup) (hy : X.N[i]? = some y) (hyl : X.env.scope.names.lookup y = some .local)
    (hsw : swapsWith (.ListComp elt [⟨tg, iter, ifs, 0⟩] scope pos) (some (.Name y py)) spos.line X.env = pure true) (hi : JI X W tg iter it) (ok : BlkOk X.N X.env.scope scope own)
    (hg : ∀ (s : Shared) (H : Hp) (C : Addr) (cl : List (Str × Addr)) (fp : List Addr), JG (X.blk s H scope (compEnvC scope cl C X.env) fp) tg g ix) (ht : ∀ (s : Shared) (H : Hp) (C : Addr) (cl : List (Str × Addr)) (fp : List Addr), JTs (X.blk s H scope (compEnvC scope cl C X.env) fp) WF ifs t)
    (he : ∀ (s : Shared) (H : Hp) (C : Addr) (cl : List (Str × Addr)) (fp : List Addr), JE (X.blk s H scope (compEnvC scope cl C X.env) fp) WF elt m) (hix : ∀ i ∈ ix, i ∈ own.map (·.2) := by decide) (hs : ∀ x, foldedSetIterable iter X.env x = pure x := by intro _; rfl) :
    JS X W (.Assign [.Name y py] (.ListComp elt [⟨tg, iter, ifs, 0⟩] scope pos) spos) (mOwn i (mLc it g t m (own.map (·.2)))) := by
  have hgx : ∀ d l, g d = some l → ∀ p ∈ l, p.1 ∈ ix := (hg (X.s_0) (X.H_0) 0 [] []).ix
  refine PS.imp (ps_setLc (g := tTg X.K g) (tt := tG X.K [] WF AB t) (te := tG X.K [] WF (AR X.K) m) hc hN hy hyl hsw hi ok (fun s H C cl fp => (hg s H C cl fp).pg) (fun s H C cl fp => ht s H C cl fp) (fun s H C cl fp => he s H C cl fp) hs) fun D σ H h => ?_
  obtain ⟨w, rfl, rfl, r, h⟩ := h
  refine lc_run hix hgx ?_
  refine runS r h fun d s' G' v H' g r' p h' => ?_
  exact h' G' _ H' (.refl _) (r'.setOwn (i := i) p)
end
end
end DL

namespace DL
open PySem PySem.Spec PySem.W PySem.Calls PyProof.Rows PySem.HandSPX
/-! ### an error class of the program, over ValueError, whose __init__ says super().__init__('..') and stores one field -/
structure XPos where
  (a1 a2 b1 b2 b3 b4 b5 c1 c2 c3 c4 : Pos)
def xParams (f : Str) (p : XPos) : Arguments := { posonlyargs := [], args := [{ arg := "self", annotation := none, pos := p.a1 }, { arg := f, annotation := none, pos := p.a2 }], vararg := none, kwonlyargs := [], kw_defaults := [], kwarg := none, defaults := [] }
def xSuper (txt : Str) (p : XPos) (p6 : Pos) : Stmt := .Expr (.Call (.Attribute (.Call (.Name "super" p.b1) [] [] p.b2) "__init__" p.b3) [.Constant (.str txt) 0 p.b4] [] p.b5) p6
def xStore (f : Str) (p : XPos) : Stmt := .Assign [.Attribute (.Name "self" p.c1) f p.c2] (.Name f p.c3) p.c4
def xScope (f : Str) : Scope := { kind := .function, names := [(PySem.Str.ofString "self", .local), (f, .local), (PySem.Str.ofString "__class__", .free), (PySem.Str.ofString "super", .globalImplicit)], isGenerator := false, isCoroutine := false, more := [] }
/-- what the written part says of the class at C -/
structure XC (P : Program) (K : Frag) (mg : Str → Option Value) (C : Addr) (f : Str) : Prop where
  ini : excInitIn K C veTail "ValueError.__new__" = true
  ref : ∃ cd, clsIn K C = some cd ∧ refsVE cd.mro = true ∧ cd.hasDict = true
  sa : findIn K (.ref C) "__setattr__" = some (some (.builtin "object.__setattr__"))
  no : findIn K (.ref C) f = some none
  kp : keepIn K (.ref C) = true
  ex : subIn K (.ref C) (.type "BaseException") = some true
  ve : subIn K (.ref C) (.type "ValueError") = some true
  ty : typeIn K (.ref C) = some (.type "type")
  sup : ks_superIn K C C "__init__" = some (some (.builtin "ValueError.__init__"))
  mro : mroIn K C (.ref C) = some true
  opq : nsIn K cStatics "thirdparty.any" = some none
  gs : mg "super" = none
  top : (P.main.scope.names.lookup ("super" : Str)).isSome = false
  fn : ∃ (fI : Addr) (oc : Value) (od : Option Addr) (doc pm : Value) (an : Option Addr) (cda : Addr) (ct : Value) (osl : Array (Option Value)) (cc : Addr) (p : XPos) (p6 : Pos) (txt q : Str), (p.b3.endLine == p.b5.line) = true ∧
    (∀ a b, bindArgs (fnX "__init__" q (xParams f p) [xSuper txt p p6, xStore f p] (xScope f) [("__class__", cc)] .none .none doc pm an (.ref cda) ct) ⟨[a, b], []⟩ = pure [(("self" : Str), a), (f, b)]) ∧
    findIn K (.ref C) "__init__" = some (some (.ref fI)) ∧ typeIn K (.ref fI) = some (.type "function") ∧
    K.lookup fI = some ⟨oc, od, .func (fnX "__init__" q (xParams f p) [xSuper txt p p6, xStore f p] (xScope f) [("__class__", cc)] .none .none doc pm an (.ref cda) ct), osl⟩ ∧ codeIn K (.ref cda) q = true ∧
    (∃ (ccl : Value) (cdd : Option Addr) (vs : Array Value) (ccs : Array (Option Value)) (file : Str) (tf : Tok), K.lookup cda = some ⟨ccl, cdd, .fields vs, ccs⟩ ∧ vs[2]? = some (.str file tf) ∧ ((P.main.file : Str) == file) = true) ∧
    ∃ (cl : Value) (cld : Option Addr) (csl : Array (Option Value)), K.lookup cc = some ⟨cl, cld, .cell (some (.ref C)), csl⟩
  nf : ¬ f = "self" ∧ ¬ f = "super" ∧ ¬ f = "__class__" ∧ (f == ("__debug__" : Str)) = false

section
variable {prog : Program} {w : World} {A : Around} {E : Value → Shared → Prop} {h : Heap} {g : Array GenState} {d : Drawn} {t : Nat} {os : OsState}
/-- super().__init__(..), bound to the error at e, is called -/
theorem call_mw {K : Frag} {C u e t0 : Addr} {rest : List Value} {Q : Value → Shared → Prop} (X : K.In h) (q : excInitIn K C veTail "ValueError.__new__" = true)
    (he : h.get? e = some (excO C t0)) (hu : h.get? u = some (kxs_mw "ValueError.__init__" e)) (hrest : rest.length ≤ sizeLine)
    (hq : ∀ h' t1, (∀ b o, b ≠ e → h.get? b = some o → h'.get? b = some o) → h'.get? e = some (excO C t1) → Q .none ⟨h', g, d, t, os⟩) :
    wpAny (model prog w) A (call (.ref u) rest) Q E ⟨h, g, d, t, os⟩ := by
  obtain ⟨nm, N', qn, bs, bm, hdct, sn, sub, ab, col, dd, k0, k1, k2, k3, k5, hC, hT⟩ := excInit_of X q
  refine wpAny_call (codeAny_of_tree ?_)
  show wpAny _ A.in1 (callAny (.ref u) ⟨rest, []⟩) _ _ _
  simp only [callAny]
  refine wpAny_bind (wpAny_load hu ?_)
  simp only [kxs_mw, show (Value.type "method-wrapper" == Value.type "method" || Value.type "method-wrapper" == Value.type "builtin_function_or_method" || Value.type "method-wrapper" == Value.type "method-wrapper") = true by decide, if_true]
  refine KFB.if_so (by decide) ?_
  refine wpAny_bind (check_bound_init F.excBase_ValueError.toExcCallFacts hC he rfl ?_)
  refine wpAny_bind (wpAny_pure (wpAny_pure ?_))
  refine ⟨plainId_quiet F.excBase_ValueError.init.plain _, codeAny_builtin F.excBase_ValueError.initEntry ?_⟩
  exact exc_init_tree (cls := .ref C) (t0 := t0) (dv := none) (c2 := .none) (c3 := .none) (b4 := .bool false) he hrest fun h' k e' _ => hq h' _ k e'
end
/-- what __init__ leaves of a fresh error at x -/
structure XEnd (h h' : Heap) (x C dx t1 : Addr) (f : Str) (v : Value) : Prop where
  keep : ∀ b o, b ≠ x → h.get? b = some o → h'.get? b = some o
  obj : h'.get? x = some { cls := .ref C, dict := some dx, data := .fields #[.ref t1, .none, .none, .none, .bool false, .none] }
  dbig : h.objs.size ≤ dx
  dne : dx ≠ x
  ns : h'.Ns1 dx (fun y => if y = f then some v else none)
section
variable {prog : Program} {w : World} {A : Around} {E : Value → Shared → Prop} {R : Result → Shared → Prop} {s : Shared} {K : Frag} {mg : Str → Option Value} {C : Addr} {f : Str}
theorem x_init (T : XC prog K mg C f) {x t0 fI : Addr} {v : Value} (hfI : findIn K (.ref C) "__init__" = some (some (.ref fI))) (X : K.In s.heap) (hlim : s.heap.NoLimit) (hg : s.heap.Ns mainGlobals mg) (hb : ∃ mb, s.heap.Ns builtinsNs mb ∧ ∀ x : Str, x ≠ "__name__" → mb x = bootBuiltins x)
    (hx : s.heap.get? x = some (excO C t0)) (hnx : K.lookup x = none) (hroom : A.depth < recursionLimit)
    (hq : ∀ h' tk dx t1, XEnd s.heap h' x C dx t1 f v → R (.ok (.ret .none)) { s with heap := h', toks := tk }) :
    codeAny (model prog w) A (.call (.ref fI) ⟨[.ref x, v], []⟩) R s := by
  obtain ⟨fI', oc, od, doc, pm, an, cda, ct, osl, cc, p, p6, txt, q, hli, hbd, a1, a2, ho, hcd, ⟨ccl, cdd, vs, ccs, file, tf, hk1, hk2, hk3⟩, cl, cld, csl, hcc⟩ := T.fn
  rw [hfI] at a1
  cases a1
  obtain ⟨cd, hcl, hre, hdct⟩ := T.ref
  obtain ⟨n1, n2, n3, n4⟩ := T.nf
  obtain ⟨mb, hb1, hb2⟩ := hb
  have m1 : (f == (PySem.Str.ofString "super")) = false := by simpa using n2
  have m2 : (f == (PySem.Str.ofString "self")) = false := by simpa using n1
  have kf : (xScope f).names.lookup f = some .local := by
    show List.lookup f [(PySem.Str.ofString "self", NameKind.local), (f, .local), (PySem.Str.ofString "__class__", .free), (PySem.Str.ofString "super", .globalImplicit)] = some .local
    simp [List.lookup, m1, m2]
  have kcl : (xScope f).names.lookup ("__class__" : Str) = some .free := by
    have e : ((PySem.Str.ofString "__class__") == f) = false := by simpa using fun z => n3 z.symm
    show List.lookup (PySem.Str.ofString "__class__") [(PySem.Str.ofString "self", NameKind.local), (f, .local), (PySem.Str.ofString "__class__", .free), (PySem.Str.ofString "super", .globalImplicit)] = some .free
    have e1 : ((PySem.Str.ofString "__class__") == (PySem.Str.ofString "super")) = false := by decide +kernel
    have e2 : ((PySem.Str.ofString "__class__") == (PySem.Str.ofString "self")) = false := by decide +kernel
    simp [List.lookup, e1, e2, e]
  have ksu : (xScope f).names.lookup ("super" : Str) = some .globalImplicit := by
    have e : ((PySem.Str.ofString "super") == f) = false := by simpa using fun z => n2 z.symm
    show List.lookup (PySem.Str.ofString "super") [(PySem.Str.ofString "self", NameKind.local), (f, .local), (PySem.Str.ofString "__class__", .free), (PySem.Str.ofString "super", .globalImplicit)] = some .globalImplicit
    have e1 : ((PySem.Str.ofString "super") == (PySem.Str.ofString "self")) = false := by decide +kernel
    have e2 : ((PySem.Str.ofString "super") == (PySem.Str.ofString "__class__")) = false := by decide +kernel
    simp [List.lookup, e1, e2, e]
  refine ks_codeAny_call_defAt (binds := [("self", .ref x), (f, v)]) hroom (X _ _ ho) rfl hlim (codeRec_of X hcd) rfl (BindsTo.of_eq ?_) ?_ ?_ (fun h₁ hns k₁ => ?_) rfl rfl rfl
  · exact hbd _ _
  · intro y hy
    have hy : y ∈ [(PySem.Str.ofString "self", NameKind.local), (f, .local), (PySem.Str.ofString "__class__", .free), (PySem.Str.ofString "super", .globalImplicit)] := hy
    simp only [List.mem_cons, List.not_mem_nil, or_false] at hy
    rcases hy with z | z | z | z <;> (subst z; simp)
  · intro y hy
    simp only [List.mem_cons, List.not_mem_nil, or_false] at hy
    rcases hy with z | z
    · subst z; rfl
    · subst z; exact kf
  · have X₁ : K.In h₁ := X.keeps k₁
    have hx₁ := k₁ _ _ hx
    have xlt : x < s.heap.objs.size := Heap.lt_size hx
    refine ks_wpAt_execs_cons (ks_wpAt_Expr_any (ks_wpAt_MethodCall (pl := do return (← importBound (.Call (.Name "super" p.b1) [] [] p.b2) (callEnv (fnX "__init__" q (xParams f p) [xSuper txt p p6, xStore f p] (xScope f) [("__class__", cc)] .none .none doc pm an (.ref cda) ct) s.heap.objs.size fI)).getD true) ?_ ?_))
    · refine ks_wpAt_super_base (env := callEnv (fnX "__init__" q (xParams f p) [xSuper txt p p6, xStore f p] (xScope f) [("__class__", cc)] .none .none doc pm an (.ref cda) ct) s.heap.objs.size fI) (ar := { arg := "self", annotation := none, pos := p.a1 }) ksu kcl (by decide +kernel) rfl (X₁ _ _ ho) rfl rfl rfl (X₁ _ _ hk1) rfl hk2 hk3 T.top ?_
      refine ks_loadName_global rfl ksu (loadGlobal_builtin (hg.keeps k₁) T.gs (hb1.keeps k₁) ((hb2 _ (by decide +kernel)).trans (by decide +kernel)) ⟨rfl, ?_⟩)
      refine wpAny_loadName_free rfl kcl rfl ⟨_, X₁ _ _ hcc, rfl⟩ ?_
      refine wpAny_loadName_local rfl rfl hns (v := .ref x) ?_ ?_
      · show List.lookup _ _ = _
        have e : ((PySem.Str.ofString "self") == f) = false := by simpa using fun z => n1 z.symm
        simp [List.lookup, e]
      obtain ⟨oD, hD1, hD2⟩ : ∃ oD, h₁.get? C = some oD ∧ oD.data = .cls cd := by
        unfold clsIn at hcl
        split at hcl
        · rename_i c d cd' sl hh
          cases hcl
          exact ⟨_, X₁ _ _ hh, rfl⟩
        · cases hcl
      have I1 : InstAt h₁ x (excO C t0) C none := ⟨hx₁, rfl, rfl, trivial⟩
      refine ks_wpAny_isType_cls hD1 hD2 ⟨rfl, ?_⟩
      refine ks_wpAny_call_super hD1 hD2 hx₁ rfl (fun c e => nomatch e) (looks_mroIn X₁ T.mro) (fun h2 e2 k2 => ?_)
      have X₂ : K.In h2 := X₁.keeps k2
      have hx₂ := k2 _ _ hx₁
      have I2 : InstAt h2 x (excO C t0) C none := ⟨hx₂, rfl, rfl, trivial⟩
      have sup := T.sup
      unfold ks_superIn at sup
      rw [hcl] at sup
      refine kxs_getMethod kxs_ValueError e2 (looks_opaque X₂ T.opq) (l₀ := cd.mro) (fun A Q E s k q => wpAny_bind ((looks_clsIn X₂ hcl) A _ E s k (wpAny_pure q))) rfl X₂ sup (I2.type.andThen (looks_subIn X₂ T.ve)) (ks_ne X₂ I2 hcl) (by decide +kernel) ?_
      have hu : (h2.push (kxs_mw "ValueError.__init__" x)).get? h2.objs.size = some (kxs_mw "ValueError.__init__" x) := Heap.get?_push_at rfl rfl
      have k3 : ∀ b o, h2.get? b = some o → (h2.push (kxs_mw "ValueError.__init__" x)).get? b = some o := fun b o e => Heap.get?_push_of_some _ e
      refine kxs_callWith (i := "ValueError.__init__") (x := x) rfl (evalArgs_plain ?_)
      refine Calls.spliced_cons (Calls.Constant_str (k := 0) (pos := p.b4) (Calls.spliced_nil ⟨hu, ?_⟩))
      refine call_mw (X₂.keeps k3) T.ini (k3 _ _ hx₂) hu (by rw [sizeLine_eq]; show 1 ≤ 16777216; decide) fun h4 t1 k4 hx4 => ?_
      have keep4 : ∀ b o, b ≠ x → h₁.get? b = some o → h4.get? b = some o := fun b o hb e => k4 b o hb (k3 b o (k2 b o e))
      have X₄ : K.In h4 := fun a o e => keep4 a o (fun z => by rw [z, hnx] at e; cases e) (X₁ a o e)
      have hns4 : h4.Ns s.heap.objs.size (fun y => List.lookup y [(f, v), (PySem.Str.ofString "self", Value.ref x)]) := hns.at (fun o e => keep4 _ o (Nat.ne_of_gt xlt) e)
      refine wpAt_of_wpAny ?_
      refine wpAny_execs_cons (plainObj_wpAny_Assign_Attribute ?_)
      have kfe : (callEnv (fnX "__init__" q (xParams f p) [xSuper txt p p6, xStore f p] (xScope f) [("__class__", cc)] .none .none doc pm an (.ref cda) ct) s.heap.objs.size fI).kindOf f = some .local := kf
      refine wpAny_Name (wpAny_loadName_local rfl kfe hns4 (v := v) (by simp [List.lookup]) ?_) n4
      have esf : ((PySem.Str.ofString "self") == f) = false := by simpa using fun z => n1 z.symm
      refine wpAny_Name (wpAny_loadName_local rfl rfl hns4 (v := .ref x) (by simp [List.lookup, esf]) ?_) (by decide +kernel)
      refine set_plain X₄ (ox := excO C t1) (od := none) ⟨hx4, rfl, rfl, trivial⟩ T.sa ?_
      refine exc_osa X₄ hx4 hcl hre hdct T.no (fun h5 tk5 dx k5 dn dne hx5 hn5 => ?_)
      have z1 : s.heap.objs.size < h4.objs.size := hns4.lt
      exact wpAny_execs_nil (hq h5 tk5 dx t1 ⟨fun b o hb e => k5 b o hb (keep4 b o hb (k₁ b o e)), hx5, Nat.le_of_lt (Nat.lt_of_lt_of_le z1 dn), dne, hn5⟩)
    · rw [arm_eval_Call]
      unfold methodCall calleeOf methodCallPos
      simp only [hli, Bool.or_true, if_true, pure_bind]
      rfl
end
end DL

namespace DL
open PySem PySem.Spec PySem.W PySem.Calls PyProof.Rows PySem.HandSPX
/-- a made error -/
structure XMade (h h' : Heap) (e C d : Addr) (f : Str) (v : Value) : Prop where
  keep : ∀ b o, h.get? b = some o → h'.get? b = some o
  new : h.objs.size ≤ e
  obj : ∃ oe vs, h'.get? e = some oe ∧ oe.cls = .ref C ∧ oe.dict = some d ∧ oe.data = .fields vs ∧ vs[1]? = some .none
  dbig : h.objs.size ≤ d
  dne : d ≠ e
  ns : h'.Ns1 d (fun y => if y = f then some v else none)
section
variable {prog : Program} {w : World} {A : Around} {R : Result → Shared → Prop} {s : Shared} {K : Frag} {mg : Str → Option Value} {C : Addr} {f : Str}
theorem x_made (T : XC prog K mg C f) {v : Value} (X : K.In s.heap) (hlim : s.heap.NoLimit) (hg : s.heap.Ns mainGlobals mg) (hb : ∃ mb, s.heap.Ns builtinsNs mb ∧ ∀ x : Str, x ≠ "__name__" → mb x = bootBuiltins x) (hroom : A.depth + 1 < recursionLimit)
    (hq : ∀ h' tk e d, XMade s.heap h' e C d f v → R (.ok (.ret (.ref e))) { s with heap := h', toks := tk }) :
    codeAny (model prog w) A (.call (.ref C) ⟨[v], []⟩) R s := by
  obtain ⟨nm, N', qn, bs, bm, hdct, sn, sub, ab, col, dd, k0, k1, k2, k3, k5, hC, hT⟩ := excInit_of X T.ini
  obtain ⟨fI, oc, od, doc, pm, an, cda, ct, osl, cc, p, p6, txt, q, _, _, hfI, htI, _⟩ := T.fn
  obtain ⟨hp, g, dr, tk, os⟩ := s
  have k : ∀ b o, hp.get? b = some o → ((hp.push (kdv_tup [v])).push (excO C hp.objs.size)).get? b = some o := fun b o e => Heap.get?_push_of_some _ (Heap.get?_push_of_some _ e)
  have hget : ((hp.push (kdv_tup [v])).push (excO C hp.objs.size)).get? (hp.objs.size + 1) = some (excO C hp.objs.size) := by heap_get
  have hnx : K.lookup (hp.objs.size + 1) = none := by
    cases e : K.lookup (hp.objs.size + 1) with
    | none => rfl
    | some o =>
      have z : hp.get? (hp.objs.size + 1) = some o := X _ _ e
      exact absurd (Nat.lt_of_succ_lt (Heap.lt_size z)) (Nat.lt_irrefl _)
  obtain ⟨mb, hb1, hb2⟩ := hb
  refine call_own F.excBase_ValueError hT hC (looks_findIn X hfI) (fun self => bind_fn X self htI) (by show 1 ≤ sizeLine; rw [sizeLine_eq]; decide) ?_
  refine x_init (s := ⟨(hp.push (kdv_tup [v])).push (excO C hp.objs.size), g, dr, tk, os⟩) T hfI (X.keeps k) (hlim.keeps k) (hg.keeps k) ⟨mb, hb1.keeps k, hb2⟩ hget hnx hroom fun h' tk' dx t1 en => ?_
  obtain ⟨k', hx, dn, dne, hns⟩ := en
  have old : ∀ b o, hp.get? b = some o → h'.get? b = some o := fun b o e => k' b o (Nat.ne_of_lt (Nat.lt_succ_of_lt (Heap.lt_size e))) (k b o e)
  have z : hp.objs.size + 1 + 1 ≤ dx := by
    have q := dn
    simp only [Heap.size_push] at q
    exact q
  exact ⟨rfl, hq h' tk' (hp.objs.size + 1) dx ⟨old, Nat.le_succ _, ⟨_, _, hx, rfl, rfl, rfl, rfl⟩, (show hp.objs.size ≤ dx by omega), dne, hns⟩⟩
end
end DL
namespace DL
open PySem PySem.Spec L2
theorem relO_one {v : V} {v' : Value} {f : Str} (r : RelV v v') (y : Str) : RelO (List.lookup y [(f, v)]) (if y = f then some v' else none) := by
  by_cases e : y = f
  · subst e
    rw [if_pos rfl]
    have q : List.lookup y [(y, v)] = some v := by simp [List.lookup]
    rw [q]
    exact r
  · rw [if_neg e]
    have q1 : (y == f) = false := by simpa using e
    have q : List.lookup y [(f, v)] = none := by simp [List.lookup, q1]
    rw [q]
    trivial
section
variable {X : Cx} {C : Addr} {f c : Str}
def tMkX (C : Addr) (f : Str) (ta : TA) : L2.St → Hp → XK → Prop := fun σ H Q => ta σ H fun vs H1 => ∃ v, vs = [v] ∧ ∀ d, H1 d = none → Q (.ref C) (some d) (upd H1 d (.xd [(f, v)]))
theorem pmk_x {a : Expr} {ta : TA} {p pos : Pos} {k : Nat} (T : XC X.prog X.K X.mg C f) (hm : X.mg c = some (.ref C)) (hr : Room k X.A) (ha : PA X [a] ta) (hg : Gl X c) (hdb : (c == ("__debug__" : Str)) = false := by decide)
    (he : starEach (a :: []) X.env = (false, eval a X.env) :: starEach [] X.env := by rfl) (hpl : (backTo pos (starEach [] X.env)).any (·.1) = false := by rfl) :
    PMk X (.Call (.Name c p) [a] [] pos) (tMkX C f ta) := by
  intro pins s σ H Q I h
  refine wpAny_Call_Name_kw (ld_glob I hg hm ?_ hdb)
  refine PySem.W.callWith_K (h₀ := X.base) I.ok.mod.kin T.kp (thn (ha.run pos pins s σ H _ I h) fun us s1 hh => ?_) he hpl
  obtain ⟨vs, H1, I1, r1, v, ev, q1⟩ := hh
  subst ev
  refine ⟨I1.kIn, ?_⟩
  cases r1 with
  | cons rv rn =>
    rename_i v' us'
    cases rn
    show wpAny _ _ (call (.ref C) [v']) _ _ _
    have hlim := I1.nolimit
    have hgl : s1.heap.Ns mainGlobals X.mg := I1.mod.glob.keeps I1.bk
    obtain ⟨mb, hb1, hb2⟩ := I1.mod.blt
    have hbl := hb1.keeps I1.bk
    obtain ⟨hp, g, dr, tk, os⟩ := s1
    refine wpAny_call (x_made T I1.kIn hlim hgl ⟨mb, hbl, hb2⟩ (by have := hr.dp; omega) fun h' tk' e d M => ?_)
    show MkP X pins σ Q (.ref e) ⟨h', g, dr, tk', os⟩
    obtain ⟨oe, fv, hoe, hc, hd, hdat, h1⟩ := M.obj
    have hns := M.ns
    obtain ⟨G', g1, g2⟩ := restrict h' fun b => decide (b ≠ e)
    have gk : ∀ b, b ≠ e → G'.get? b = h'.get? b := fun b hb => g1 b (decide_eq_true hb)
    have ge : G'.get? e = none := g2 e (by simp)
    have old : ∀ b o, hp.get? b = some o → G'.get? b = some o := fun b o q => (gk b (Nat.ne_of_lt (Nat.lt_of_lt_of_le (Heap.lt_size q) M.new))).trans (M.keep b o q)
    have ob : ObjOk X.prog X.w (upd H1 d (.xd [(f, v)])) G' d (.xd [(f, v)]) := ⟨_, hns.at (fun o q => (gk d M.dne).trans q), fun y => relO_one rv y⟩
    have J : Inv X pins σ (upd H1 d (.xd [(f, v)])) ⟨G', g, dr, tk', os⟩ := I1.laid (t' := tk') old M.dbig ob
    refine ⟨e, oe, fv, ⟨G', g, dr, tk', os⟩, _, .ref C, some d, rfl, J, fun b o q => ?_, ge, hoe, ⟨hc, hd⟩, hdat, h1, ?_, rfl, I1.bare, raises_own T.ex T.ty, q1 d (I1.hok.fresh M.dbig)⟩
    · by_cases hb : b = e
      · have q' : G'.get? b = some o := q
        rw [hb, ge] at q'; cases q'
      · exact (gk b hb).symm.trans q
    · rw [upd_ne (Ne.symm M.dne)]
      exact I1.hok.fresh M.new
/-- raise c(e), c the program's error with one field f -/
def mRaise (c f : Str) (m : ME) : MS := bnd m fun d s => .exc ⟨c, [(f, d)]⟩ s
theorem js_raise {a : Expr} {m : ME} {W : WX} {p pos pos2 : Pos} {k : Nat} (hc : X.calm = true) (T : XC X.prog X.K X.mg (He.ga X.K c) f) (hm : X.mg c = some (.ref (He.ga X.K c))) (hr : Room k X.A) (tk : Takes X W) (ha : JE X W a m) (hg : Gl X c) (hdb : (c == ("__debug__" : Str)) = false := by decide)
    (he : starEach (a :: []) X.env = (false, eval a X.env) :: starEach [] X.env := by rfl) (hpl : (backTo pos (starEach [] X.env)).any (·.1) = false := by rfl) :
    JS X W (.Raise (some (.Call (.Name c p) [a] [] pos)) none pos2) (mRaise c f m) := by
  refine PS.imp (ps_raise hc tk (pmk_x T hm hr (pa_cons ha pa_nil he) hg hdb he hpl)) fun D σ H h => ?_
  obtain ⟨w, rfl, rfl, r, h⟩ := h
  refine runS r h fun d s' G' v H' g r' p h' => ?_
  refine ⟨v, rfl, fun dd hd => ?_⟩
  have hn : G'.F dd = none := r'.noF hd
  refine h' _ _ _ _ _ (gle_upd hn) (r'.new hd) ⟨rfl, dd, [(f, v)], rfl, upd_same, ?_⟩
  exact .cons (p.mono (gle_upd hn)) .nil
end
end DL

namespace DL
open PySem PySem.Spec L2
/-! ### try .. except c as n -/
/-- is the error's class one that the clause names: by a table of the program's classes (k: the clause) -/
abbrev Sub := Str → Option Bool
/-- try: b; except (class told by sub) as slot i: h; the slot is empty behind -/
def mTryAs (sub : Sub) (i : Nat) (b h : MS) : MS := fun s => if noX s = true then (match b s with
  | .exc x s' => if noX s' = true then (match sub x.c with
      | some true => (match h (s'.put i (.xn x)) with
        | .ok fl s2 => if noX (s2.put i .emp) = true then .ok fl (s2.put i .emp) else .stuck
        | _ => .stuck)
      | some false => .exc x s'
      | none => .stuck) else .stuck
  | .ok fl s' => if noX s' = true then .ok fl s' else .stuck
  | .stuck => .stuck) else .stuck
theorem Rel.xnSet {K : PySem.W.Frag} {w : Wd} {a : Addr} {oe : Obj} {tl : List (Addr × Obj)} {cls : Value} {d : Option Addr} {x : Exc} {i : Nat} (r : Rel K ((a, oe) :: tl) w) (hz : Zc cls d oe) (hx : XRep K w.G cls d x) : Rel K ((a, oe) :: tl) { w with σ := w.σ.set i (some (.ref a)), s := w.s.put i (.xn x) } := by
  refine ⟨r.ex, r.le, r.st, ⟨by show (w.σ.set i (some (.ref a))).length = (w.s.sl.set i (.xn x)).length; rw [List.length_set, List.length_set]; exact r.sl.len, fun j e q => ?_, fun j ds q => ?_, fun j k ds es b q1 q2 q3 q4 => ?_, fun j y q => ?_⟩, fun q hq => ?_⟩
  · rcases set_get q with ⟨e1, e2⟩ | ⟨e1, e2⟩
    · cases e2
    · obtain ⟨u, h1, h2⟩ := r.sl.imm j e e2
      exact ⟨u, (List.getElem?_set_ne (Ne.symm e1)).trans h1, h2⟩
  · rcases set_get q with ⟨e1, e2⟩ | ⟨e1, e2⟩
    · cases e2
    · obtain ⟨b, vs, h1, h2⟩ := r.sl.own j ds e2
      exact ⟨b, vs, (List.getElem?_set_ne (Ne.symm e1)).trans h1, h2⟩
  · rcases set_get q1 with ⟨e1, e2⟩ | ⟨e1, e2⟩
    · cases e2
    · rcases set_get q2 with ⟨e3, e4⟩ | ⟨e3, e4⟩
      · cases e4
      · exact r.sl.dis j k ds es b e2 e4 ((List.getElem?_set_ne (Ne.symm e1)).symm.trans q3) ((List.getElem?_set_ne (Ne.symm e3)).symm.trans q4)
  · have hl : j < w.σ.length := by rw [r.sl.len]; exact set_lt q
    rcases set_get q with ⟨e1, e2⟩ | ⟨e1, e2⟩
    · subst e1; cases e2
      exact ⟨a, oe, tl, cls, d, rfl, List.getElem?_set_self hl, hz, hx⟩
    · obtain ⟨b, ob, t2, c2, d2, h1, h2, h3⟩ := r.sl.xn j y e2
      exact ⟨b, ob, t2, c2, d2, h1, (List.getElem?_set_ne (Ne.symm e1)).trans h2, h3⟩
  · obtain ⟨p1, p2, p3, p4, p5⟩ := r.pr q hq
    refine ⟨p1, p2, p3, p4, fun j es h1 h2 => ?_⟩
    rcases set_get h1 with ⟨e1, e2⟩ | ⟨e1, e2⟩
    · cases e2
    · exact p5 j es e2 ((List.getElem?_set_ne (Ne.symm e1)).symm.trans h2)
section
variable {X : Cx} {W : WX} {x n : Str} {c : Value} {i : Nat} {body suite : List Stmt} {b₀ : Stmt} {np pos pos' : Pos} {mb mh : MS} {sub : Sub}
theorem js_tryAs (hs : X.stack = X.env :: X.outer) (hf : X.env.frame = some X.env.locals) (hN : X.N.Nodup) (hi : X.N[i]? = some n) (hln : X.env.kindOf n = some .local) (hc : Names X x c) (tk : Takes X W)
    (hsub : ∀ y b, sub y = some b → PySem.W.exmOne X.K (.ref (He.ga X.K y)) c = some b)
    (hb : ∀ (W' : WX) (pn : List (Addr × Obj)) (xe : Value → Shared → Prop), Takes (X.tr pn xe) W' → PassesOwn (model X.prog X.w) X.A X.env xe → JSs (X.tr pn xe) W' body mb)
    (hsu : ∀ (a : Addr) (oe : Obj) (cls : Value) (d : Option Addr) (pn : List (Addr × Obj)), Zc cls d oe → (∃ vs, oe.data = .fields vs) → JSs (X.suite a ((a, oe) :: pn)) WF (b₀ :: suite) mh) :
    JS X W (.Try body [.ExceptHandler (some (.Name x np)) (some n) (b₀ :: suite) pos'] [] [] pos) (mTryAs sub i mb mh) := by
  -- the body is read for any pins: with none
  let tb : WX → TS := fun W' D σ H => ∃ w : Wd, w.σ = σ ∧ w.H = H ∧ Rel X.K [] w ∧ noX w.s = true ∧ (∀ s', (∃ fl, mb w.s = .ok fl s') ∨ (∃ y, mb w.s = .exc y s') → noX s' = true) ∧ okS X.K [] W' w D (mb w.s)
  have h1 : ∀ (W' : WX) (pn : List (Addr × Obj)) (xe : Value → Shared → Prop), Takes (X.tr pn xe) W' → PassesOwn (model X.prog X.w) X.A X.env xe → PSs (X.tr pn xe) body (tb W') := fun W' pn xe t p => PSs.imp (hb W' pn xe t p) fun D σ H h => by
    obtain ⟨w, rfl, rfl, r, nx, nx2, h⟩ := h
    refine ⟨w, rfl, rfl, r.pn nx, ?_⟩
    show okS X.K pn W' w D (mb w.s)
    cases hm : mb w.s with
    | ok fl s' =>
      rw [hm] at h
      have nx3 := nx2 s' (.inl ⟨fl, hm⟩)
      exact fun G' σ' H' g r' => h G' σ' H' g (Rel.pn r' nx3)
    | exc y s' =>
      rw [hm] at h
      have nx3 := nx2 s' (.inr ⟨y, hm⟩)
      exact fun G' σ' c d H' g r' => h G' σ' c d H' g (Rel.pn r' nx3)
    | stuck => rw [hm] at h; exact h
  let ts : Addr → Value → Option Addr → TS := fun a cls d D σ H => ∀ (oe : Obj) (pn : List (Addr × Obj)), Zc cls d oe → tS X.K ((a, oe) :: pn) WF mh D σ H
  have h2 : ∀ (a : Addr) (oe : Obj) (cls : Value) (d : Option Addr) (pn : List (Addr × Obj)), Zc cls d oe → (∃ vs, oe.data = .fields vs) → PSs (X.suite a ((a, oe) :: pn)) (b₀ :: suite) (ts a cls d) := fun a oe cls d pn hz hv =>
    PSs.imp (hsu a oe cls d pn hz hv) fun D σ H h => h oe pn hz
  refine PS.imp (ps_try_as (tb := tb) (ts := ts) (Wout := W) hs hf hN hi hln hc tk h1 h2) fun D σ H h => ?_
  obtain ⟨w, rfl, rfl, r, h⟩ := h
  unfold mTryAs at h
  split at h
  · rename_i nx
    refine ⟨w, rfl, rfl, r.pn nx, nx, fun s' hs' => ?_, ?_⟩
    · rcases hs' with ⟨fl, hm⟩ | ⟨y, hm⟩
      · rw [hm] at h
        dsimp only at h
        split at h
        · assumption
        · exact h.elim
      · rw [hm] at h
        dsimp only at h
        split at h
        · assumption
        · exact h.elim
    · cases hm : mb w.s with
      | stuck => rw [hm] at h; exact h
      | ok fl s' =>
        rw [hm] at h
        dsimp only at h
        split at h
        · rename_i nx2
          exact fun G' σ' H' g r' => h G' σ' H' g (Rel.pn r' nx2)
        · exact h.elim
      | exc y s' =>
        rw [hm] at h
        dsimp only at h
        split at h
        · rename_i nx2
          intro G' σ' cls dd H' g r' hx
          cases hsb : sub y.c with
          | none => simp only [hsb] at h; exact h.elim
          | some b =>
            simp only [hsb] at h
            refine ⟨b, by rw [hx.1]; exact hsub _ _ hsb, fun eb a ha oe pn hz => ?_, fun eb => ?_⟩
            · subst eb
              dsimp only at h
              have r2 := Rel.xnSet (i := i) (Rel.pn (pn' := (a, oe) :: pn) r' nx2) hz hx
              refine ⟨_, rfl, rfl, r2, ?_⟩
              show okS X.K ((a, oe) :: pn) WF _ _ (mh (s'.put i (.xn y)))
              cases hh : mh (s'.put i (.xn y)) with
              | stuck => rw [hh] at h; exact h
              | exc z s2 => rw [hh] at h; exact h.elim
              | ok fl s2 =>
                rw [hh] at h
                dsimp only at h
                split at h
                · rename_i nx3
                  intro G2 σ2 H2 g2 r3
                  have r4 := Rel.pn (pn' := X.pn) (Rel.clr (i := i) (v := none) r3) nx3
                  have h5 := h G2 (σ2.set i none) H2 (g.trans g2) r4
                  cases fl with
                  | nx => exact h5
                  | bk => exact h5
                  | ct => exact h5
                  | rt d => exact h5
                · exact h.elim
            · subst eb
              dsimp only at h
              exact h G' σ' cls dd H' g (Rel.pn r' nx2) hx
        · exact h.elim
  · exact h.elim
end
/-! ### in a suite: the caught error's field, its class -/
/-- e.f, e in slot i -/
def mXf (i : Nat) (c f : Str) : ME := fun s => match s.sl[i]? with
  | some (.xn x) => if x.c = c then (match x.fs.lookup f with
      | some d => .ok d s
      | none => .stuck) else .stuck
  | _ => .stuck
theorem repF_get {K : PySem.W.Frag} {G : Gh} : ∀ {fvs : List (Str × V)} {fs : List (Str × D)} {f : Str} {d : D}, RepF K G fvs fs → fs.lookup f = some d → ∃ v, fvs.lookup f = some v ∧ Rep K G v d
  | _, _, _, _, .nil, h => by cases h
  | _, _, f, d, .cons (f := g) (v := v) (d := d') p r, h => by
    by_cases e : (f == g) = true
    · simp only [List.lookup, e] at h
      cases h
      exact ⟨v, by simp only [List.lookup, e], p⟩
    · have e : (f == g) = false := by simpa using e
      simp only [List.lookup, e] at h
      obtain ⟨u, h1, h2⟩ := repF_get r h
      exact ⟨u, by simp only [List.lookup, e]; exact h1, h2⟩
section
variable {X : Cx} {a : Addr} {oe : Obj} {cls : Value} {d : Option Addr} {pn : List (Addr × Obj)} {i : Nat} {y n c : Str} {p pos : Pos}
theorem je_xf (T : XfC X.K (He.ga X.K c)) (hno : PySem.W.findIn X.K (.ref (He.ga X.K c)) n = some none) (hz : Zc cls d oe) (hf : ∃ vs, oe.data = .fields vs) (hN : X.N[i]? = some y := by rfl) (hv : Vis X.env.scope y := by first | exact Or.inl rfl | exact Or.inr (Or.inl rfl) | exact Or.inr (Or.inr rfl)) (hd : (y == ("__debug__" : Str)) = false := by decide) (hcd : (y == ("__classdict__" : Str)) = false := by decide)
    (hb : attributeBase (.Name y p) n X.env (eval (.Name y p) X.env) = eval (.Name y p) X.env := by rfl) : JE (X.suite a ((a, oe) :: pn)) WF (.Attribute (.Name y p) n pos) (mXf i c n) := by
  refine PE.imp (pe_xf (C := He.ga X.K c) T hno hz hf (pv (X := X.suite a ((a, oe) :: pn)) i hN hv hd hcd) hb) fun σ H Q h => ?_
  obtain ⟨w, rfl, rfl, r, h⟩ := h
  unfold mXf at h
  split at h
  · rename_i x hx
    split at h
    · rename_i hc
      split at h
      · rename_i dd hl
        obtain ⟨a', oe', tl, cls', d', e1, e2, e3, e4⟩ := r.sl.xn i x hx
        cases e1
        obtain ⟨z1, z2⟩ := hz
        obtain ⟨z3, z4⟩ := e3
        have ec : cls' = cls := z3.symm.trans z1
        have ed : d' = d := z4.symm.trans z2
        subst ec ed
        obtain ⟨q1, q2⟩ := e4
        cases hfs : x.fs with
        | nil => rw [hfs] at hl; cases hl
        | cons g gs =>
          rw [hfs] at q2 hl
          obtain ⟨b, fvs, k1, k2, k3⟩ := q2
          obtain ⟨v, l1, l2⟩ := repF_get k3 hl
          exact ⟨_, e2, rfl, by rw [q1, hc], b, fvs, v, k1, r.ex _ _ k2, l1, h _ _ _ (.refl _) r l2⟩
      · exact h.elim
    · exact h.elim
  · exact h.elim
end
end DL

namespace DL
open PySem PySem.Spec L2

/-! ### isinstance(x, T), T a built-in type -/
def tyD : D → Option String
  | .non => some "NoneType" | .bl _ => some "bool" | .int _ => some "int" | .str _ => some "str" | .tup _ => some "tuple"
  | .lst _ => some "list" | .kl _ => some "list" | .nod => some "dict" | .loc _ => none | .ins _ _ => none | .kt _ => none
def subT (a b : String) : Bool := a == b || (a == "bool" && b == "int")
def tysL : List String := ["NoneType", "bool", "int", "str", "tuple", "list", "dict"]
def tysR : List String := ["bool", "int", "str", "tuple", "list", "dict"]
theorem kit_tab : (tysL.all fun a => tysR.all fun b => decide (kitB a b = some (subT a b))) = true := by decide +kernel
theorem tyD_in {d : D} {t : String} (h : tyD d = some t) : t ∈ tysL := by
  cases d <;> cases h <;> simp [tysL]
theorem kit_tb {K : PySem.W.Frag} {a b : String} (ha : a ∈ tysL) (hb : b ∈ tysR) : PySem.W.kitOne K (.type a) (.type b) = some (subT a b) := by
  have h := kit_tab
  rw [List.all_eq_true] at h
  have h2 := h a ha
  rw [List.all_eq_true] at h2
  exact kit_ty (of_decide_eq_true (h2 b hb))
theorem tyx_of {K : PySem.W.Frag} {pn : List (Addr × Obj)} {w : Wd} {x : V} {d : D} {t : String} (r : Rel K pn w) (p : AL K w x d) (h : tyD d = some t) : TyX K w.H x (.type t) := by
  have ls : ∀ {a : Addr} {vs : List V}, SqL K w.H a vs → TyX K w.H (.ref a) (.type "list") := fun {a vs} hs => by
    rcases hs with (q | ⟨o, q⟩) | ⟨o, its, n, h1, h2, _⟩
    · exact .base (.lst q)
    · exact .base (.frz q)
    · exact .kList h1 h2
  rcases p with p | ⟨a, vs, ds, rfl, rfl, h1, _⟩
  · cases p with
    | non => cases h; exact .base .non
    | bl b => cases h; exact .base (.bl b)
    | int i => cases h; exact .base (.int i)
    | str z => cases h; exact .base (.str z)
    | tup hs _ =>
      cases h
      exact .base (.tup (r.ex _ _ hs))
    | lst hs _ => cases h; exact ls (SqL.of (r.ex _ _ hs))
    | kl hs _ => cases h; exact ls (sqL_mono r.ex hs)
    | kt _ _ => cases h
    | nod hs => cases h; exact .base (.dK (r.ex _ _ hs))
    | loc _ => cases h
    | ins _ _ => cases h
  · cases h; exact ls (SqL.of h1)
def fIsi (T : String) (d : D) : Option D := (tyD d).map fun t => .bl (subT t T)
/-- of one of several types -/
def fIsiA (Ts : List String) (d : D) : Option D := (tyD d).map fun t => .bl (Ts.any (subT t))
section
variable {X : Cx} {W : WX} {e : Expr} {m : ME} {pos p q : Pos} {x : Str}
theorem pe_tyN {T : String} (hg : Gl X x) (hm : X.mg x = none) (hv : bootBuiltins x = some (.type T)) (hn : x ≠ "__name__" := by decide) (hdb : (x == ("__debug__" : Str)) = false := by decide) : PE X (.Name x pos) (tC (.ty T)) :=
  ⟨fun pins s σ H Q I h => ld_blt I hg hm hv ⟨.ty T, H, I, rfl, h⟩ hn hdb⟩
theorem je_isi {T : String} (hT : T ∈ tysR) (hg : Gl X "isinstance") (hm : X.mg "isinstance" = none) (hgT : Gl X x) (hmT : X.mg x = none) (hvT : bootBuiltins x = some (.type T)) (h : JB X W e m) (hn : x ≠ "__name__" := by decide) (hdb : (x == ("__debug__" : Str)) = false := by decide)
    (hs : starEach [e, .Name x q] X.env = (false, eval e X.env) :: starEach [.Name x q] X.env := by rfl) (hs2 : starEach [.Name x q] X.env = (false, eval (.Name x q) X.env) :: starEach [] X.env := by rfl) (h2 : (backTo pos (starEach [.Name x q] X.env)).any (·.1) = false := by rfl) :
    JE X W (.Call (.Name "isinstance" p) [e, .Name x q] [] pos) (mUn (fIsi T) m) := by
  refine PE.imp (pe_callB call_isi hg hm rfl (pa_cons h (pa_cons (pe_tyN hgT hmT hvT hn hdb) pa_nil hs2) hs) (by decide) (by decide) hs h2) fun σ H Q h => ?_
  obtain ⟨w, rfl, rfl, r, h⟩ := h
  refine run r h fun d s' G' v H' g r' p h' => ?_
  unfold fIsi at h'
  cases ht : tyD d with
  | none => rw [ht] at h'; exact h'.elim
  | some t =>
    rw [ht] at h'
    exact ⟨v, .ty T, .type t, .type T, _, rfl, .ty T, tyx_of r' p ht, kit_tb (tyD_in ht) hT, fin r' h' (.bl _)⟩
end

/-! ### data without dicts; != -/
def pds (f : D → Option PyData) : List D → Option (List PyData)
  | [] => some []
  | d :: ds => match f d, pds f ds with
    | some p, some ps => some (p :: ps)
    | _, _ => none
/-- d as data, at most n deep -/
def pd : Nat → D → Option PyData
  | _, .non => some .none
  | _, .bl b => some (.bool b)
  | _, .int i => some (.int i)
  | _, .str x => some (.str x)
  | n + 1, .tup ds => (pds (pd n) ds).map .tuple
  | n + 1, .lst ds => (pds (pd n) ds).map .list
  | _, _ => none
theorem pds_cons {f : D → Option PyData} {d : D} {ds : List D} {ps : List PyData} (h : pds f (d :: ds) = some ps) : ∃ p qs, f d = some p ∧ pds f ds = some qs ∧ ps = p :: qs := by
  unfold pds at h
  cases h1 : f d with
  | none => rw [h1] at h; cases h
  | some p =>
    cases h2 : pds f ds with
    | none => rw [h1, h2] at h; cases h
    | some qs => rw [h1, h2] at h; cases h; exact ⟨p, qs, rfl, rfl, rfl⟩
theorem pd_all {n : Nat} (ih : ∀ d p, pd n d = some p → p.plain = true ∧ p.depth ≤ n) : ∀ {ds : List D} {ps : List PyData}, pds (pd n) ds = some ps → PyData.plainAll ps = true ∧ PyData.depthAll ps ≤ n
  | [], _, h => by cases h; exact ⟨by simp [PyData.plainAll], by simp [PyData.depthAll]⟩
  | d :: ds, _, h => by
    obtain ⟨p, qs, h1, h2, rfl⟩ := pds_cons h
    obtain ⟨a, b⟩ := pd_all ih h2
    obtain ⟨c, e⟩ := ih d p h1
    refine ⟨by simp [PyData.plainAll, a, c], ?_⟩
    simp only [PyData.depthAll]
    omega
theorem pd_ok : ∀ (n : Nat) (d : D) (p : PyData), pd n d = some p → p.plain = true ∧ p.depth ≤ n := by
  intro n
  induction n with
  | zero => intro d p h; cases d <;> simp [pd] at h <;> subst h <;> simp [PyData.plain, PyData.depth]
  | succ n ih =>
    intro d p h
    cases d <;> simp [pd] at h <;> first | (subst h; simp [PyData.plain, PyData.depth]; done) | skip
    · obtain ⟨ps, h1, rfl⟩ := h
      obtain ⟨a, b⟩ := pd_all ih h1
      exact ⟨by simpa [PyData.plain] using a, by simp only [PyData.depth]; omega⟩
    · obtain ⟨ps, h1, rfl⟩ := h
      obtain ⟨a, b⟩ := pd_all ih h1
      exact ⟨by simpa [PyData.plain] using a, by simp only [PyData.depth]; omega⟩
theorem pds_dp {K : PySem.W.Frag} {G : Gh} {H : Hp} {f : D → Option PyData} (ih : ∀ v d p, f d = some p → Rep K G v d → Dp K H v p) : ∀ {ds : List D} {ps : List PyData} {vs : List V}, pds f ds = some ps → Reps K G vs ds → DpAll K H vs ps
  | [], _, _, h, r => by cases h; cases r; exact .nil
  | d :: ds, _, _, h, r => by
    obtain ⟨p, qs, h1, h2, rfl⟩ := pds_cons h
    cases r with
    | cons a b => exact .cons (ih _ _ _ h1 a) (pds_dp ih h2 b)
theorem pd_dp {K : PySem.W.Frag} {pn : List (Addr × Obj)} {w : Wd} (r : Rel K pn w) : ∀ (n : Nat) (v : V) (d : D) (p : PyData), pd n d = some p → Rep K w.G v d → Dp K w.H v p := by
  intro n
  induction n with
  | zero =>
    intro v d p h q
    cases q <;> simp [pd] at h <;> subst h
    · exact .non
    · exact .bl _
    · exact .int _
    · exact .str _
  | succ n ih =>
    intro v d p h q
    cases q with
    | non => simp [pd] at h; subst h; exact .non
    | bl b => simp [pd] at h; subst h; exact .bl _
    | int i => simp [pd] at h; subst h; exact .int _
    | str x => simp [pd] at h; subst h; exact .str _
    | tup hs rs =>
      simp [pd] at h
      obtain ⟨ps, h1, rfl⟩ := h
      exact .tup (tqT r.ex hs) (pds_dp ih h1 rs)
    | lst hs rs =>
      simp [pd] at h
      obtain ⟨ps, h1, rfl⟩ := h
      exact .lst (SqL.of (r.ex _ _ hs)) (pds_dp ih h1 rs)
    | kl hs rs => simp [pd] at h
    | kt hs rs => simp [pd] at h
    | nod hs => simp [pd] at h
    | loc hs => simp [pd] at h
    | ins hs rs => simp [pd] at h
theorem deqs_pd {n : Nat} (ih : ∀ d e p q, pd n d = some p → pd n e = some q → deq n d e = some (PyData.eqv p q)) : ∀ {ds es : List D} {ps qs : List PyData}, pds (pd n) ds = some ps → pds (pd n) es = some qs → deqs (deq n) ds es = some (PyData.eqvAll ps qs)
  | [], [], _, _, h1, h2 => by cases h1; cases h2; simp [deqs, PyData.eqvAll]
  | [], e :: es, _, _, h1, h2 => by obtain ⟨q, qs, _, _, rfl⟩ := pds_cons h2; cases h1; simp [deqs, PyData.eqvAll]
  | d :: ds, [], _, _, h1, h2 => by obtain ⟨q, qs, _, _, rfl⟩ := pds_cons h1; cases h2; simp [deqs, PyData.eqvAll]
  | d :: ds, e :: es, _, _, h1, h2 => by
    obtain ⟨p, ps, a1, a2, rfl⟩ := pds_cons h1
    obtain ⟨q, qs, b1, b2, rfl⟩ := pds_cons h2
    simp only [deqs, ih d e p q a1 b1, deqs_pd ih a2 b2, PyData.eqvAll]
theorem deq_pd : ∀ (n : Nat) (d e : D) (p q : PyData), pd n d = some p → pd n e = some q → deq n d e = some (PyData.eqv p q) := by
  intro n
  induction n with
  | zero =>
    intro d e p q h1 h2
    cases d <;> simp [pd] at h1 <;> subst h1 <;> cases e <;> simp [pd] at h2 <;> subst h2 <;> simp [deq, sc, PyData.eqv]
  | succ n ih =>
    intro d e p q h1 h2
    cases d <;> simp [pd] at h1 <;> first | (obtain ⟨ps, h1, rfl⟩ := h1) | subst h1
    all_goals (cases e <;> simp [pd] at h2 <;> first | (obtain ⟨qs, h2, rfl⟩ := h2) | subst h2)
    all_goals first | (simp [deq, sc, PyData.eqv]; done) | (simp only [deq, PyData.eqv]; exact deqs_pd ih h1 h2)
/-- x != y of data without dicts -/
def fNe (d e : D) : Option D := if (pd 50 d).isSome = true ∧ (pd 50 e).isSome = true then (deq 50 d e).map fun b => .bl (!b) else none
def rNeX (K : PySem.W.Frag) : R2 := fun x y H Q => ∃ p q, Dp K H x p ∧ Dp K H y q ∧ p.plain = true ∧ q.plain = true ∧ p.depth ≤ 50 ∧ Q (.bl (!PyData.eqv p q)) H
theorem op_neX {X : Cx} (hu : X.A.units + 64 < cLine) : OpR X (compareOp .NotEq) (rNeX X.K) := by
  intro pins s σ H x y v u Q I rx ry h
  obtain ⟨d, e, hd, he, sd, se, dd, q⟩ := h
  obtain ⟨as, r1⟩ := Dp.reads I d x v hd rx
  obtain ⟨bs, r2⟩ := Dp.reads I e y u he ry
  exact SeqAt.ne_plain r1 r2 sd se (by omega) ⟨.bl _, H, I, rfl, q⟩
theorem k_ne {K : PySem.W.Frag} : R2Ok K (rNeX K) fNe := by
  intro pn w x y d e z Q r p1 p2 hz k
  unfold fNe at hz
  split at hz
  · rename_i hh
    obtain ⟨p, hp⟩ := Option.isSome_iff_exists.mp hh.1
    obtain ⟨q, hq⟩ := Option.isSome_iff_exists.mp hh.2
    rw [deq_pd 50 d e p q hp hq] at hz
    cases hz
    obtain ⟨a1, a2⟩ := pd_ok 50 d p hp
    obtain ⟨b1, b2⟩ := pd_ok 50 e q hq
    exact ⟨p, q, pd_dp r 50 x d p hp p1, pd_dp r 50 y e q hq p2, a1, b1, a2, k _ _ _ (.refl _) r (.bl _)⟩
  · cases hz
/-! x in xs, x not in xs: plain data -/
def fInP (neg : Bool) (d c : D) : Option D := match itD c with
  | some ds => if (pd 50 d).isSome = true ∧ (pd 50 c).isSome = true then some (.bl (if neg then !(ds.any fun e => deq 50 e d == some true) else ds.any fun e => deq 50 e d == some true)) else none
  | none => none

/-! ### list(range(n)), tuple(range(n)) -/
section
variable {X : Cx} {W : WX} {e : Expr} {m : ME} {pos p p2 pos2 : Pos}
def rgD (d : D) : Option (List D) := match d with
  | .int n => if n ≤ 1000000 ∧ -1000000 ≤ n then some (intsD 0 n.toNat) else none
  | _ => none
theorem rg_reps {K : PySem.W.Frag} {G : Gh} {b : Int} : Reps K G (rgV 0 b) (intsD 0 b.toNat) := by
  unfold rgV intsD
  rw [Int.sub_zero]
  generalize List.range b.toNat = l
  induction l with
  | nil => exact .nil
  | cons a r ih => exact .cons (.int _) ih
theorem jf_listRg (hc : X.calm = true) (hg : Gl X "list") (hm : X.mg "list" = none) (hg2 : Gl X "range") (hm2 : X.mg "range" = none) (h : JE X W e m) (na : starEach [e] X.env = (false, eval e X.env) :: starEach [] X.env := by rfl)
    (nb : starEach [Expr.Call (.Name "range" p2) [e] [] pos2] X.env = (false, eval (Expr.Call (.Name "range" p2) [e] [] pos2) X.env) :: starEach [] X.env := by rfl) :
    JF X W (.Call (.Name "list" p) [.Call (.Name "range" p2) [e] [] pos2] [] pos) (mUnF rgD m) := by
  refine PE.imp (pe_listRg hc hg hm (prg_1 hg2 hm2 h na) nb) fun σ H Q h => ?_
  obtain ⟨w, rfl, rfl, r, h⟩ := h
  refine run r h fun d s' G' v H' g r' p h' => ?_
  unfold rgD at h'
  split at h'
  · rename_i heq
    split at heq
    · rename_i n
      split at heq
      · rename_i hb
        cases heq
        cases p
        refine ⟨n, rfl, ⟨by omega, by omega, by omega, by omega, by omega⟩, fun q hq => ?_⟩
        exact h' _ _ _ (.refl _) (r'.alloc hq) (AF.new r' hq rg_reps)
      · cases heq
    · cases heq
  · exact h'.elim
theorem je_tupRg (hc : X.calm = true) (hg : Gl X "tuple") (hm : X.mg "tuple" = none) (hg2 : Gl X "range") (hm2 : X.mg "range" = none) (h : JE X W e m) (na : starEach [e] X.env = (false, eval e X.env) :: starEach [] X.env := by rfl)
    (nb : starEach [Expr.Call (.Name "range" p2) [e] [] pos2] X.env = (false, eval (Expr.Call (.Name "range" p2) [e] [] pos2) X.env) :: starEach [] X.env := by rfl) :
    JE X W (.Call (.Name "tuple" p) [.Call (.Name "range" p2) [e] [] pos2] [] pos) (mUn (fun d => (rgD d).map .tup) m) := by
  refine PE.imp (pe_tupRg hc hg hm (prg_1 hg2 hm2 h na) nb) fun σ H Q h => ?_
  obtain ⟨w, rfl, rfl, r, h⟩ := h
  refine run r h fun d s' G' v H' g r' p h' => ?_
  cases hz : rgD d with
  | none => simp only [hz] at h'; exact h'.elim
  | some ds =>
    simp only [hz] at h'
    unfold rgD at hz
    split at hz
    · rename_i n
      split at hz
      · rename_i hb
        cases hz
        cases p
        refine ⟨n, rfl, ⟨by omega, by omega, by omega, by omega, by omega⟩, fun q hq => ?_⟩
        have hn := r'.noF hq
        exact h' _ _ _ (gle_upd hn) (r'.new hq) (.tup upd_same rg_reps)
      · cases hz
    · cases hz
end

/-! ### a, b = x, y; targets that take a list -/
/-- what is stored in a slot: a value, or a new list -/
def mPar (i j : Nat) (m : MA) : MS := bnd m fun ds s => match ds with
  | [d, e] => .ok .nx ((s.put i (.imm d)).put j (.imm e))
  | _ => .stuck
section
variable {X : Cx} {W : WX} {a b : Expr} {m : MA} {pos : Pos}
theorem js_par {i j : Nat} {x y : Str} {px py pt : Pos} {kt k2 pt2} (hc : X.calm = true) (hN : X.N.Nodup) (hi : X.N[i]? = some x) (hj : X.N[j]? = some y) (hij : i ≠ j)
    (hx : X.env.scope.names.lookup x = some .local) (hy : X.env.scope.names.lookup y = some .local) (ha : JA X W [a, b] m)
    (hw : swappedStores [.Tuple [.Name x px, .Name y py] kt pt] (.Tuple [a, b] k2 pt2) X.env = pure (some [x, y]))
    (hs : swapsWithSole [.Tuple [.Name x px, .Name y py] kt pt] (.Tuple [a, b] k2 pt2) pos.line X.env = pure false := by rfl) :
    JS X W (.Assign [.Tuple [.Name x px, .Name y py] kt pt] (.Tuple [a, b] k2 pt2) pos) (mPar i j m) := by
  refine PS.imp (ps_par hc hN hi hj hij hx hy ha.pa hw hs) fun D σ H h => ?_
  obtain ⟨w, rfl, rfl, r, h⟩ := h
  refine runS r h fun ds s' G' vs H' g r' p h' => ?_
  split at h'
  · cases p with
    | cons p1 p2 =>
      cases p2 with
      | cons p2 p3 =>
        cases p3
        exact ⟨_, _, rfl, h' G' _ H' (.refl _) (Rel.set (w := { w with G := G', σ := w.σ.set i (some _), H := H', s := s'.put i (.imm _) }) (r'.set p1) p2)⟩
  · exact h'.elim
/-- a, b = x, [..]: the second a new list that slot j then owns -/
def mParF (i j : Nat) (m : ME) (m2 : MA) : MS := bnd m fun d => bnd m2 fun ds s => .ok .nx ((s.put i (.imm d)).put j (.own ds))
/-- a, b = [..], [..]: both new lists -/
def mParFF (i j : Nat) (m m2 : MA) : MS := bnd m fun ds s => match m2 s with
  | .ok es s' => .ok .nx ((s'.put i (.own ds)).put j (.own es))
  | _ => .stuck
/-- names from a list or a tuple -/
def gTL (n : Nat) (gs : MGs) : MG
  | .tup ds => if ds.length = n then gs ds else none
  | .lst ds => if ds.length = n then gs ds else none
  | _ => none
theorem PG.or {e : Expr} {t t' : TG} (h : PG X e t) (h' : PG X e t') : PG X e (fun v σ H Q => t v σ H Q ∨ t' v σ H Q) := ⟨fun pins s σ H v u Q I r q => q.elim (h.run pins s σ H v u Q I r) (h'.run pins s σ H v u Q I r)⟩
theorem jg_tl {es : List Expr} {k : Nat} {gs : MGs} {ix : List Nat} {n : Nat} (hc : X.calm = true) (h : JGs X es gs ix) (hn : (assignEach es X.env).length = n := by rfl) (hst : (assignEach es X.env).findIdx? (·.1) = none := by rfl) : JG X (.Tuple es k pos) (gTL n gs) ix := by
  refine ⟨PG.imp (PG.or (pg_tup hc h.pg hn hst) (pg_unl hc h.pg hn hst)) fun v σ H Q h => ?_, fun d l e p hp => ?_⟩
  · obtain ⟨pn, w, d, l, rfl, r, p, e, q⟩ := h
    unfold gTL at e
    split at e
    · rename_i ds
      cases p with
      | tup hs rs =>
        split at e
        · rename_i hl
          exact .inl ⟨_, _, rfl, tqT r.ex hs, rs.length.trans hl, pn, w, ds, l, rfl, r, rs, e, q⟩
        · cases e
    · rename_i ds
      cases p with
      | lst hs rs =>
        split at e
        · rename_i hl
          exact .inr ⟨_, _, rfl, SqL.of (r.ex _ _ hs), rs.length.trans hl, pn, w, ds, l, rfl, r, rs, e, q⟩
        · cases e
    · cases e
  · unfold gTL at e
    split at e
    · split at e
      · exact h.ix _ _ e p hp
      · cases e
    · split at e
      · exact h.ix _ _ e p hp
      · cases e
    · cases e
end
end DL

namespace DL
open PySem PySem.Spec L2
section
variable {K : PySem.W.Frag} {pn : List (Addr × Obj)} {w : Wd}
/-- a thing that nobody holds becomes a cell -/
theorem Rel.mkCell (r : Rel K pn w) {p : Addr} {o : Ob} {u : HO} {l : List (Addr × HO)} (hF : w.G.F p = none) (na : p ∉ w.G.ad) (h0 : w.H0 p = none) (hs : ∀ (i : Nat) es, w.s.sl[i]? = some (.own es) → w.σ[i]? ≠ some (some (.ref p))) (hl : ∀ q ∈ l, q ∈ w.pr ∧ q.1 ≠ p)
    (ho : ∀ G' H', w.G.le G' → H' p = some u → ObRel K G' H' p o) :
    w.G.le { w.G with ad := w.G.ad ++ [p] } ∧ Rel K pn { w with G := { w.G with ad := w.G.ad ++ [p] }, H := upd w.H p u, s := { w.s with st := w.s.st ++ [o] }, pr := l } ∧ Rep K { w.G with ad := w.G.ad ++ [p] } (.ref p) (.loc w.s.st.length) := by
  have g : w.G.le { w.G with ad := w.G.ad ++ [p] } := ⟨fun _ _ h => h, fun n a h => (List.getElem?_append_left (List.getElem?_eq_some_iff.mp h).1).trans h⟩
  have up : ∀ a x, a ≠ p → w.H a = some x → upd w.H p u a = some x := fun a x n h => (upd_ne n).trans h
  refine ⟨g, ⟨fun a x h => up a x (fun e => by rw [e] at h; exact absurd (hF.symm.trans h) (by simp)) (r.ex a x h), ⟨r.le.g.trans g, fun a h => ?_, r.le.fz, fun a x h n => up a x (fun e => by rw [e] at h; exact absurd (h0.symm.trans h) (by simp)) (r.le.kp a x h n), fun a x h => ?_⟩, ⟨?_, fun n a x h1 h2 => ?_, fun a h => ?_, ?_⟩, ⟨r.sl.len, fun i d h => ?_, fun i ds h => ?_, r.sl.dis, fun i x h => ?_⟩, fun q hq => ?_⟩, ?_⟩
  · rcases List.mem_append.mp h with z | z
    · exact r.le.nw a z
    · rw [List.mem_singleton.mp z]; exact .inr h0
  · obtain ⟨x', h'⟩ := r.le.dm a x h
    by_cases e : a = p
    · exact ⟨u, by rw [e]; exact upd_same⟩
    · exact ⟨x', up a x' e h'⟩
  · show (w.G.ad ++ [p]).length = (w.s.st ++ [o]).length
    rw [List.length_append, List.length_append, r.st.len]; rfl
  · have h1 : (w.G.ad ++ [p])[n]? = some a := h1
    have h2 : (w.s.st ++ [o])[n]? = some x := h2
    by_cases hn : n < w.G.ad.length
    · rw [List.getElem?_append_left hn] at h1
      rw [List.getElem?_append_left (by rw [← r.st.len]; exact hn)] at h2
      have ne : a ≠ p := fun e => na (e ▸ List.mem_of_getElem? h1)
      exact (r.st.at_ n a x h1 h2).mono g (fun y => up a y ne)
    · rw [List.getElem?_append_right (by omega)] at h1
      rw [List.getElem?_append_right (by rw [← r.st.len]; omega), ← r.st.len] at h2
      have e : n - w.G.ad.length = 0 := by
        have := (List.getElem?_eq_some_iff.mp h1).1
        simp at this; omega
      rw [e] at h1 h2
      simp at h1 h2
      subst h1 h2
      exact ho _ _ g upd_same
  · rcases List.mem_append.mp h with z | z
    · exact r.st.nof a z
    · rw [List.mem_singleton.mp z]; exact hF
  · show (w.G.ad ++ [p]).Nodup
    rw [List.nodup_append]
    exact ⟨r.st.nd, by simp, fun a ha b hb e => by rw [List.mem_singleton.mp hb] at e; exact na (e ▸ ha)⟩
  · obtain ⟨v, h1, h2⟩ := r.sl.imm i d h
    exact ⟨v, h1, h2.mono g⟩
  · obtain ⟨a, vs, h1, h2, h3, h4, h5, h6⟩ := r.sl.own i ds h
    have ne : a ≠ p := fun e => hs i ds h (e ▸ h1)
    refine ⟨a, vs, h1, up a _ ne h2, h3.mono g, h4, fun m => ?_, h6⟩
    rcases List.mem_append.mp m with z | z
    · exact h5 z
    · exact ne (List.mem_singleton.mp z)
  · obtain ⟨a, oe, tl, cls, d, h1, h2, h3, h4⟩ := r.sl.xn i x h
    exact ⟨a, oe, tl, cls, d, h1, h2, h3, h4.mono g⟩
  · obtain ⟨hq1, hq2⟩ := hl q hq
    obtain ⟨p1, p2, p3, p4⟩ := r.pr q hq1
    refine ⟨up _ _ hq2 p1, p2, ⟨fun m => ?_, p3.2⟩, p4⟩
    rcases List.mem_append.mp m with z | z
    · exact p3.1 z
    · exact hq2 (List.mem_singleton.mp z)
  · refine .loc ?_
    show (w.G.ad ++ [p])[w.s.st.length]? = some p
    rw [← r.st.len]
    simp
/-- a new list is held while other things are done -/
theorem Rel.hold (r : Rel K pn w) {b : Addr} {vs : List V} {ds : List D} (h1 : w.H b = some (.lst vs)) (h2 : w.G.F b = none) (h3 : b ∉ w.G.ad) (h4 : w.H0 b = none) (h5 : ∀ (i : Nat) es, w.s.sl[i]? = some (.own es) → w.σ[i]? ≠ some (some (.ref b))) : Rel K pn { w with pr := (b, .lst vs) :: w.pr } := by
  refine ⟨r.ex, r.le, r.st, r.sl, fun q hq => ?_⟩
  rcases List.mem_cons.mp hq with e | hq
  · rw [e]; exact ⟨h1, h2, ⟨h3, rfl⟩, h4, h5⟩
  · exact r.pr q hq
end

/-! ### a, b = new list, new list -/
section
variable {X : Cx} {W : WX} {a b : Expr} {m m2 : MA} {pos : Pos}
theorem js_parFF {i j : Nat} {x y : Str} {px py pt : Pos} {kt k2 pt2} (hc : X.calm = true) (hN : X.N.Nodup) (hi : X.N[i]? = some x) (hj : X.N[j]? = some y) (hij : i ≠ j)
    (hx : X.env.scope.names.lookup x = some .local) (hy : X.env.scope.names.lookup y = some .local) (h1 : JF X W a m) (h2 : JF X W b m2)
    (hw : swappedStores [.Tuple [.Name x px, .Name y py] kt pt] (.Tuple [a, b] k2 pt2) X.env = pure (some [x, y]))
    (hs : swapsWithSole [.Tuple [.Name x px, .Name y py] kt pt] (.Tuple [a, b] k2 pt2) pos.line X.env = pure false := by rfl)
    (s1 : starEach [a, b] X.env = (false, eval a X.env) :: starEach [b] X.env := by rfl) (s2 : starEach [b] X.env = (false, eval b X.env) :: starEach [] X.env := by rfl) :
    JS X W (.Assign [.Tuple [.Name x px, .Name y py] kt pt] (.Tuple [a, b] k2 pt2) pos) (mParFF i j m m2) := by
  refine PS.imp (ps_par hc hN hi hj hij hx hy (pa_cons h1 (pa_cons h2 pa_nil s2) s1) hw hs) fun D σ H h => ?_
  obtain ⟨w, rfl, rfl, r, h⟩ := h
  refine runS r h fun ds s' G' v H' g r' p h' => ?_
  obtain ⟨c, vs, rfl, q1, q2, q3, q4, q5, q6, q7⟩ := p
  refine ⟨{ w with G := G', H := H', s := s', pr := (c, .lst vs) :: w.pr }, rfl, rfl, Rel.hold (w := { w with G := G', H := H', s := s' }) (ds := ds) r' q1 q3 q4 q5 q6, ?_⟩
  cases hm : m2 s' with
  | exc y s2 => rw [hm] at h'; exact h'.elim
  | stuck => rw [hm] at h'; exact h'.elim
  | ok es s2 =>
    rw [hm] at h'
    intro G2 v2 H2 g2 r2 a2
    obtain ⟨r3, a3⟩ := Rel.prPop (w := { w with G := G2, H := H2, s := s2, pr := (c, .lst vs) :: w.pr }) (ds := ds) r2 rfl q7 (q2.mono g2)
    obtain ⟨c2, us, rfl, e1, e2, e3, e4, e5, e6, e7⟩ := a2
    have nec : c ≠ c2 := e7 (c, .lst vs) List.mem_cons_self
    refine ⟨_, _, rfl, ?_⟩
    have r4 := Rel.setOwn (i := i) r3 a3
    have hl : s2.sl.length = w.σ.length := r3.sl.len.symm
    refine h' G2 _ H2 g2 (Rel.setOwn (i := j) r4 ⟨c2, us, rfl, e1, e2, e3, e4, e5, fun k fs z1 z2 => ?_, fun q hq => e7 q (List.mem_cons_of_mem _ hq)⟩)
    rcases set_get z1 with ⟨k1, k2⟩ | ⟨k1, k2⟩
    · subst k1
      have z2 : (w.σ.set k (some (.ref c)))[k]? = some (some (.ref c2)) := z2
      rw [List.getElem?_set_self (by rw [← hl]; exact set_lt z1)] at z2
      cases z2
      exact nec rfl
    · exact e6 k fs k2 ((List.getElem?_set_ne (Ne.symm k1)).symm.trans z2)
end

/-! ### dicts that are cells -/
def valD {κ : Type} [DecidableEq κ] (kvs : List (κ × D)) (k : κ) : Option D := (kvs.find? fun kv => decide (kv.1 = k)).map (·.2)
def putD {κ : Type} [DecidableEq κ] (kvs : List (κ × D)) (k : κ) (d : D) : List (κ × D) := if (kvs.any fun kv => decide (kv.1 = k)) then kvs.map fun kv => if kv.1 = k then (kv.1, d) else kv else kvs ++ [(k, d)]
theorem kv_val {κ : Type} [DecidableEq κ] {K : PySem.W.Frag} {G : Gh} {k : κ} {d : D} : ∀ {vs : List (κ × V)} {kvs : List (κ × D)}, KvRel K G vs kvs → valD kvs k = some d → ∃ v, valV vs k = some v ∧ Rep K G v d
  | _, _, .nil, h => by cases h
  | _, _, .cons (a := p) (b := q) e r, h => by
    unfold valD at h
    unfold valV
    rw [List.find?_cons] at h ⊢
    rw [e.1]
    by_cases c : q.1 = k
    · simp only [c, decide_true] at h ⊢
      cases h
      exact ⟨_, rfl, e.2⟩
    · simp only [c, decide_false] at h ⊢
      exact kv_val r h
end DL

namespace DL
open PySem PySem.Spec L2
theorem kv_any {κ : Type} [DecidableEq κ] {K : PySem.W.Frag} {G : Gh} {k : κ} : ∀ {vs : List (κ × V)} {kvs : List (κ × D)}, KvRel K G vs kvs → (vs.any fun kv => decide (kv.1 = k)) = kvs.any fun kv => decide (kv.1 = k)
  | _, _, .nil => rfl
  | _, _, .cons (a := p) (b := q) e r => by
    rw [List.any_cons, List.any_cons, e.1, kv_any r]
theorem kv_map {κ : Type} [DecidableEq κ] {K : PySem.W.Frag} {G : Gh} {k : κ} {v : V} {d : D} (p : Rep K G v d) : ∀ {vs : List (κ × V)} {kvs : List (κ × D)}, KvRel K G vs kvs → KvRel K G (vs.map fun kv => if kv.1 = k then (kv.1, v) else kv) (kvs.map fun kv => if kv.1 = k then (kv.1, d) else kv)
  | _, _, .nil => .nil
  | _, _, .cons (a := p1) (b := q1) e r => by
    refine .cons ?_ (kv_map p r)
    by_cases c : q1.1 = k
    · have c' : p1.1 = k := e.1.trans c
      simp only [if_pos c, if_pos c']
      exact ⟨e.1, p⟩
    · have c' : ¬ p1.1 = k := fun z => c (e.1.symm.trans z)
      simp only [if_neg c, if_neg c']
      exact e
theorem kv_put {κ : Type} [DecidableEq κ] {K : PySem.W.Frag} {G : Gh} {k : κ} {v : V} {d : D} {vs : List (κ × V)} {kvs : List (κ × D)} (r : KvRel K G vs kvs) (p : Rep K G v d) : KvRel K G (putK vs k v) (putD kvs k d) := by
  unfold putK putD
  rw [kv_any r]
  split
  · exact kv_map p r
  · exact paired_append r (.cons ⟨rfl, p⟩ .nil)
theorem kv_len {κ : Type} {K : PySem.W.Frag} {G : Gh} : ∀ {vs : List (κ × V)} {kvs : List (κ × D)}, KvRel K G vs kvs → vs.length = kvs.length
  | _, _, .nil => rfl
  | _, _, .cons e r => by rw [List.length_cons, List.length_cons, kv_len r]

/-- d[k], d a cell -/
def mGet (m : ME) (k : Key) : ME := bnd m fun d s => match d with
  | .loc n => (match s.st[n]? with
    | some (.dct kvs) => (match valD kvs k with
      | some z => .ok z s
      | none => .stuck)
    | _ => .stuck)
  | _ => .stuck
/-- d[k] = v -/
def mPut (m : ME) (k : Key) (mv : ME) : MS := bnd mv fun z => bnd m fun d s => match d with
  | .loc n => (match s.st[n]? with
    | some (.dct kvs) => if kvs.length < 1000 then .ok .nx { s with st := s.st.set n (.dct (putD kvs k z)) } else .stuck
    | _ => .stuck)
  | _ => .stuck
section
variable {X : Cx} {W : WX} {o i v : Expr} {m mv : ME} {pos pos' : Pos} {k : Key}
theorem je_get (hu : X.A.units + 1 < cLine) (ho : JE X W o m) (hi : PE X i (tC (kV k))) (hs : NoSl i := by exact fun _ _ => rfl) : JE X W (.Subscript o i pos) (mGet m k) := by
  refine PE.imp (pe_dget hu ho hi hs) fun σ H Q h => ?_
  obtain ⟨w, rfl, rfl, r, h⟩ := h
  refine run r h fun d s' G' y H' g r' p h' => ?_
  split at h'
  · rename_i n
    split at h'
    · rename_i kvs hn
      split at h'
      · rename_i z hz
        cases p with
        | loc ha =>
          obtain ⟨vs, e1, e2⟩ := r'.st.at_ n _ _ ha hn
          obtain ⟨u, f1, f2⟩ := kv_val e2 hz
          refine ⟨_, u, rfl, ?_, h' _ _ _ (.refl _) r' f2⟩
          have := DGet.k (k := k) e1
          rw [f1] at this
          exact this
      · exact h'.elim
    · exact h'.elim
  · exact h'.elim
theorem js_put (hu : X.A.units + 1 < cLine) (ho : JE X W o m) (hi : PE X i (tC (kV k))) (hv : JE X W v mv) (hs : swapsWith v (some (.Subscript o i pos')) pos.line X.env = pure false := by rfl) : JS X W (.Assign [.Subscript o i pos'] v pos) (mPut m k mv) := by
  refine PS.imp (ps_dput hu ho hi hv hs) fun D σ H h => ?_
  obtain ⟨w, rfl, rfl, r, h⟩ := h
  refine runS r h fun z s1 G1 y1 H1 g1 r1 p1 h1 => ?_
  refine runS r1 h1 fun d s' G' y H' g r' p h' => ?_
  split at h'
  · rename_i n
    split at h'
    · rename_i kvs hn
      split at h'
      · rename_i hl
        cases p with
        | loc ha =>
          obtain ⟨vs, e1, e2⟩ := r'.st.at_ n _ _ ha hn
          refine ⟨_, _, rfl, DPut.k e1 (by rw [kv_len e2, sizeLine_eq]; omega), ?_⟩
          exact h' _ _ _ (.refl _) (r'.cell ha fun H2 hH => ⟨_, hH, kv_put e2 (p1.mono g)⟩)
      · exact h'.elim
    · exact h'.elim
  · exact h'.elim
/-- {} as a value -/
theorem je_nod : JE X W (.Dict [] [] pos) (mC .nod) := by
  refine PE.imp pe_dnewK fun σ H Q h => ?_
  obtain ⟨w, rfl, rfl, r, h⟩ := h
  intro p hp
  have hn := r.noF hp
  exact h _ _ _ (gle_upd hn) (r.new hp) (.nod upd_same)
end

/-! a display, to be a cell -/
def mVals : List (Key × ME) → MA
  | [] => ret []
  | (_, m) :: r => bnd m fun d => bnd (mVals r) fun ds => ret (d :: ds)
def mDict (ms : List (Key × ME)) : ME := bnd (mVals ms) fun ds s => .ok (.loc s.st.length) { s with st := s.st ++ [.dct ((ms.map (·.1)).zip ds)] }
def AK (K : PySem.W.Frag) (ks : List Key) : Wd → List (V × V) → List D → Prop := fun w ps ds => ∃ vs : List V, ps = (ks.zip vs).map (fun kv => (kV kv.1, kv.2)) ∧ ks.length = vs.length ∧ Reps K w.G vs ds
theorem vals_run {K : PySem.W.Frag} {pn : List (Addr × Obj)} {W : WX} : ∀ (ms : List (Key × ME)) (w : Wd) (Q : List (V × V) → Hp → Prop), Rel K pn w → okG K pn W (AK K (ms.map (·.1))) w Q (mVals ms w.s) → tPairs (ms.map fun p => (tC (kV p.1), tG K pn W (AR K) p.2)) w.σ w.H Q
  | [], w, Q, r, h => h w.G [] w.H (.refl _) r ⟨[], rfl, rfl, .nil⟩
  | (k, m) :: rest, w, Q, r, h => by
    show tG K pn W (AR K) m w.σ w.H fun y H2 => tPairs (rest.map fun p => (tC (kV p.1), tG K pn W (AR K) p.2)) w.σ H2 fun ps H3 => Q ((kV k, y) :: ps) H3
    refine run r h fun d s' G' v H' g r' p h' => ?_
    refine vals_run rest { w with G := G', H := H', s := s' } _ r' ?_
    have h' : okG K pn W (AK K (((k, m) :: rest).map (·.1))) { w with G := G', H := H', s := s' } Q (bnd (mVals rest) (fun ds => ret (d :: ds)) s') := h'
    unfold bnd at h'
    show okG K pn W _ _ _ (mVals rest s')
    cases hm : mVals rest s' with
    | ok ds s2 =>
      rw [hm] at h'
      intro G2 ps H2 g2 r2 ha
      obtain ⟨vs, e1, e2, e3⟩ := ha
      refine h' G2 _ H2 g2 r2 ⟨v :: vs, ?_, ?_, .cons (p.mono g2) e3⟩
      · rw [e1]; rfl
      · simpa using e2
    | exc y s2 => rw [hm] at h'; exact h'
    | stuck => rw [hm] at h'; exact h'
theorem merge_nodup : ∀ (kvs acc : List (Key × V)), ((acc ++ kvs).map (·.1)).Nodup → mergeK acc kvs = acc ++ kvs
  | [], acc, _ => by rw [List.append_nil]; rfl
  | p :: r, acc, h => by
    have e : putK acc p.1 p.2 = acc ++ [(p.1, p.2)] := by
      unfold putK
      rw [if_neg]
      intro z
      rw [List.any_eq_true] at z
      obtain ⟨q, hq, hz⟩ := z
      have hz := of_decide_eq_true hz
      rw [List.map_append, List.nodup_append] at h
      exact h.2.2 q.1 (List.mem_map_of_mem hq) p.1 (by simp) hz
    show mergeK (putK acc p.1 p.2) r = _
    rw [e, merge_nodup r (acc ++ [(p.1, p.2)]) (by simpa using h)]
    simp
theorem kv_zip {K : PySem.W.Frag} {G : Gh} : ∀ (ks : List Key) {vs : List V} {ds : List D}, Reps K G vs ds → KvRel K G (ks.zip vs) (ks.zip ds)
  | [], _, _, _ => .nil
  | k :: ks, _, _, .nil => .nil
  | k :: ks, _, _, .cons p r => .cons ⟨rfl, p⟩ (kv_zip ks r)
theorem mVals_len {ms : List (Key × ME)} : ∀ {s s' : S} {ds : List D}, mVals ms s = .ok ds s' → ds.length = ms.length := by
  induction ms with
  | nil => intro s s' ds h; cases h; rfl
  | cons p r ih =>
    intro s s' ds h
    obtain ⟨a, s1, h1, h2⟩ := bnd_ok h
    obtain ⟨b, s2, h3, h4⟩ := bnd_ok h2
    cases h4
    rw [List.length_cons, List.length_cons, ih h3]
section
variable {X : Cx} {W : WX} {pos : Pos} {keys : List (Option Expr)} {values : List Expr} {ms : List (Key × ME)}
def JP (X : Cx) (W : WX) (pos : Pos) (keys : List (Option Expr)) (values : List Expr) (ms : List (Key × ME)) : Prop := PPs X pos keys values (ms.map fun p => (tC (kV p.1), tG X.K X.pn W (AR X.K) p.2))
theorem jp_nil : JP X W pos [] [] [] := pps_nil
theorem jp_cons {k v : Expr} {ke : Key} {m : ME} (hk : PE X k (tC (kV ke))) (hv : JE X W v m) (hr : JP X W pos keys values ms) : JP X W pos (some k :: keys) (v :: values) ((ke, m) :: ms) := pps_cons hk hv hr
theorem je_dict (h : JP X W pos keys values ms) (hn : (ms.map (·.1)).Nodup) (hall : keys.all (·.isSome) = true := by rfl) (hl : keys.length = values.length := by rfl) (h0 : keys ≠ [] := by decide) (h15 : keys.length ≤ 15 := by decide) (hm : ms.length ≤ 15 := by decide) : JE X W (.Dict keys values pos) (mDict ms) := by
  refine PE.imp (pe_disp h hall hl h0 h15) fun σ H Q h => ?_
  obtain ⟨w, rfl, rfl, r, h⟩ := h
  intro p hp
  have r1 := r.prPush (o := .dK []) hp
  refine vals_run ms { w with H := upd w.H p (.dK []), pr := (p, .dK []) :: w.pr } _ r1 ?_
  have h : okG X.K X.pn W (AR X.K) w Q (bnd (mVals ms) (fun ds s => .ok (.loc s.st.length) { s with st := s.st ++ [.dct ((ms.map (·.1)).zip ds)] }) w.s) := h
  unfold bnd at h
  show okG X.K X.pn W _ _ _ (mVals ms w.s)
  have np := r.noP hp
  cases hm2 : mVals ms w.s with
  | stuck => rw [hm2] at h; exact h
  | exc y s2 =>
    rw [hm2] at h
    intro G' c d H' g r' hx
    refine h G' c d H' g ?_ hx
    exact ⟨r'.ex, r'.le, r'.st, r'.sl, fun q hq => r'.pr q (List.mem_cons_of_mem _ hq)⟩
  | ok ds s2 =>
    rw [hm2] at h
    intro G' ps H' g r' ha
    obtain ⟨vs, e1, e2, e3⟩ := ha
    obtain ⟨p1, p2, p3, p4, p5⟩ := r'.pr (p, .dK []) List.mem_cons_self
    refine ⟨p1, (ms.map (·.1)).zip vs, e1, ?_, ?_⟩
    · rw [List.length_zip, ← e2, Nat.min_self, List.length_map]; exact hm
    · have em : mergeK [] ((ms.map (·.1)).zip vs) = (ms.map (·.1)).zip vs := by
        rw [merge_nodup]
        · rfl
        · rw [List.nil_append, List.map_fst_zip (by omega)]; exact hn
      rw [em]
      obtain ⟨g2, r2, q2⟩ := Rel.mkCell (w := { w with G := G', H := H', s := s2, pr := (p, .dK []) :: w.pr }) (o := .dct ((ms.map (·.1)).zip ds)) (u := .dK ((ms.map (·.1)).zip vs)) (l := w.pr) r' p2 p3.1 p4 p5 (fun q hq => ⟨List.mem_cons_of_mem _ hq, np q hq⟩) (fun G2 H2 g2 hH => ⟨_, hH, kv_zip _ (e3.mono g2)⟩)
      exact h _ _ _ (g.trans g2) r2 q2
end
end DL

/-! enumerate over a tuple -/
namespace DL
open PySem PySem.Spec PyProof.Rows L2
abbrev enO (p : Addr) : Obj := { cls := .type "enumerate", data := .fields #[.none, .bool false, .ref p, rawInt 0, .none, .none] }
abbrev tiO (t : Addr) : Obj := { cls := .type "tuple_iterator", data := .fields #[.ref t, .int 0 0] }
theorem en_new (t : Addr) (items : Array Value) :
    Meets (Builtin.«enumerate.__new__» ⟨[.type "enumerate", .ref t], []⟩) (fun _ R s => s.heap.IsTuple t items ∧ R (.ok (.ret (.ref (s.heap.push (tiO t)).objs.size))) { s with heap := (s.heap.push (tiO t)).push (enO s.heap.objs.size) }) :=
  .of_wp fun prog w A R s h => by
    obtain ⟨hp, gl, dr, tk, os⟩ := s
    obtain ⟨ht, hR⟩ := h
    have hsub := sub_enumerate
    have go : ∀ {A2 : Around} {E2 : Value → Shared → Prop} {Q2 : Value → Shared → Prop}, Q2 (.ref hp.objs.size) ⟨hp.push (tiO t), gl, dr, tk, os⟩ → wpAny (model prog w) A2 (pyIter (.ref t)) Q2 E2 ⟨hp, gl, dr, tk, os⟩ := fun q => (begins_tuple t items).iter prog w _ _ ⟨hp, gl, dr, tk, os⟩ _ ht q
    obtain ⟨ot, h1, h2, n1, h3⟩ := id ht
    obtain ⟨oc, od, odt, osl⟩ := ot
    simp only at h2 h3
    subst h2 h3
    wp_walk using AutoSeq1.wpAny_loadPart' h1
    refine wpAny_stack_any fun stk => wpAny_pure ?_
    split
    · rename_i cc _ _ _ _ _
      cases (cc == Value.type "enumerate")
      all_goals
        wp_walk using AutoSeq1.wpAny_loadPart' h1, go
        exact ⟨_, rfl, hR⟩
    · wp_walk using AutoSeq1.wpAny_loadPart' h1, go
      exact ⟨_, rfl, hR⟩
section
variable {prog : Program} {w : World} {A : Around} {E : Value → Shared → Prop} {s : Shared}
theorem en_call {t : Addr} {items : Array Value} {Q : Value → Shared → Prop} (ht : s.heap.IsTuple t items)
    (h : ∀ h', IsEnum h' (s.heap.objs.size + 1) s.heap.objs.size 0 .none → h'.IsTupleIter s.heap.objs.size t 0 → (∀ b o, s.heap.get? b = some o → h'.get? b = some o) → Q (.ref (s.heap.objs.size + 1)) { s with heap := h' }) :
    wpAny (model prog w) A (call (.type "enumerate") [.ref t]) Q E s := by
  refine callType_new F.called_enumerate (by decide) (F.typeCall_enumerate_1 _) (F.newCall_enumerate_1 _) (fun ob => F.args_object_init_2 ob _) F.entry_enumerate_new (en_new t items) ⟨ht, ?_⟩
  have hz : (s.heap.push (tiO t)).objs.size = s.heap.objs.size + 1 := Heap.size_push ..
  show _ ∧ _
  rw [hz]
  have he : IsEnum ((s.heap.push (tiO t)).push (enO s.heap.objs.size)) (s.heap.objs.size + 1) s.heap.objs.size 0 .none := by
    have q := Heap.get?_push_size (s.heap.push (tiO t)) (o := enO s.heap.objs.size) rfl
    rw [hz] at q; exact q
  exact ⟨⟨_, he, rfl⟩, h _ he ⟨_, Heap.get?_push_of_some _ (Heap.get?_push_size _ rfl), rfl, rfl⟩ fun b o x => Heap.get?_push_of_some _ (Heap.get?_push_of_some _ x)⟩
theorem en_end {e it t : Addr} {i : Nat} {items : Array Value} {c : Int} {old : Value} {Q : Option Value → Shared → Prop} (hh : A.handled = none) (he : IsEnum s.heap e it c old) (hit : s.heap.IsTupleIter it t i) (ht : s.heap.IsTuple t items) (hx : items[i]? = none)
    (hQ : ∀ h', Heap.ExtBut it s.heap h' → Q none { s with heap := h' }) : wpAny (model prog w) A (pyNext (.ref e)) Q E s := by
  have hT : s.TypeIs (.ref e) "enumerate" := ⟨_, he, rfl⟩
  unfold pyNext
  refine wpAny_bind (wpAny_attempt (wpAny_callSpecial?_slot (name := Str.ofString "__next__") hT F.slot_enumerate_next (wpAny_call_entry F.slot_enumerate_next hT F.entry_enumerate_next ?_ (F.args_enumerate_next_1 _))))
  show wpAny _ _ (field (.ref e) 2 >>= _) _ _ _
  refine wpAny_bind (wpAny_field he rfl (x := .ref it) rfl (wpAny_bind (wpAny_nextOf_tuple_end hh hit ht hx fun h2 x he2 hx2 => ?_)))
  obtain ⟨o, ho, hc⟩ := hx2
  exact wpAny_bind (wpAny_isInstance (T := "StopIteration") (b := true) ⟨o, ho, hc⟩ isSubtype_stop (wpAny_pure (hQ _ he2)))
end
/-- the tuple's items, each in a new pair with its number -/
def Itu (K : PySem.W.Frag) (a : Addr) : It :=
  ⟨fun i H => ∃ (xs : List V) (x : V), SqT K H a xs ∧ xs[i]? = some x, fun i H v H' => ∃ T x, v = .ref T ∧ H T = none ∧ H' = upd H T (.tup [.int (i : Nat), x]) ∧ ∀ xs, SqT K H a xs → xs[i]? = some x, fun i H => ∃ xs : List V, SqT K H a xs ∧ xs.length ≤ i⟩
theorem turn_enT {P : Program} {w : World} {K : PySem.W.Frag} {elts : List Expr} {kk : Nat} {tpos : Pos} (a e it : Addr) (ha1 : a ≠ e) (ha2 : a ≠ it) :
    Turn P w K (.Tuple elts kk tpos) (Itu K a) [e, it] e (fun i h => (∃ old, IsEnum h e it ((i : Nat) : Int) old) ∧ h.IsTupleIter it a i ∧ e ≠ it) where
  mem := by simp
  obj := fun i h st b hb => by
    obtain ⟨⟨old, he⟩, ⟨o, ho, hc, hd⟩, _⟩ := st
    rcases (by simpa using hb : b = e ∨ b = it) with z | z
    · rw [z]; exact ⟨_, he, fun v q => nomatch q⟩
    · rw [z]; exact ⟨o, ho, fun v q => by rw [hd] at q; cases q⟩
  keep := fun i h h' st k => let ⟨⟨old, he⟩, hi, hne⟩ := st; ⟨⟨old, k e (by simp) _ he⟩, hi.at fun o q => k it (by simp) o q, hne⟩
  item := by
    intro X hP hw hK hc i pins s σ H E I hf st hg
    subst hP hw hK
    obtain ⟨⟨old, he⟩, hit, hne⟩ := st
    obtain ⟨xs, x, hq, hx⟩ := hg
    obtain ⟨its, rv, p, hz⟩ := I.tuple hq
    obtain ⟨u, hu, ru⟩ := rv.get hx
    have hel : e < s.heap.objs.size := Heap.lt_size he
    have hil : it < s.heap.objs.size := by obtain ⟨_, q, _⟩ := hit; exact Heap.lt_size q
    have p : s.heap.IsTuple a its.toArray := p
    have hlt : i < its.toArray.size := by
      have := (List.getElem?_eq_some_iff.mp hu).1
      simpa using this
    have DT := Draws.tuple (prog := X.prog) (w := X.w) (A := X.A.in1) (I.ok.hd hc) it a ha2 its.toArray
    refine wpAny_pyNext_enum_itemD DT he ⟨hit, p⟩ hlt hne (by simp [hne, Ne.symm ha1]) fun u' h' tk hu' ho hst' hT hsz hk => ?_
    have hu2 : its.toArray[i]? = some u' := hu'
    have eu : u' = u := by
      have : its[i]? = some u' := by simpa using hu2
      rw [hu] at this; exact (Option.some.inj this).symm
    subst eu
    refine ⟨_, rfl, wpAny_letOwnedTupleGo_enum (s := { s with heap := h', toks := tk + 1 }) ho fun h'' he' sb => ?_⟩
    have hT2 : h''.get? s.heap.objs.size = some { cls := .type "tuple", data := .seq #[.int i tk, u'] } := (sb.2 _ (Nat.ne_of_gt hel)).trans hT
    have new : ObjOk X.prog X.w (upd H s.heap.objs.size (.tup [.int (i : Nat), x])) h'' s.heap.objs.size (.tup [.int (i : Nat), x]) := ⟨by show 2 ≤ sizeLine; decide, [.int i tk, u'], .cons ⟨_, rfl⟩ (.cons ru .nil), ⟨_, hT2, rfl, _, rfl⟩⟩
    have I1 : Inv X pins σ (upd H s.heap.objs.size (.tup [.int (i : Nat), x])) { s with heap := h'', toks := tk + 1 } := I.turnedNew (ch := [e, it]) (fun b ob hb q => (sb.2 b (fun z => hb (by simp [z]))).trans (hk b ob (fun z => hb (by simp [z])) (fun z => hb (by simp [z])) q)) hf (Nat.le_refl _) new
    refine ⟨.ref s.heap.objs.size, _, I1, rfl, ⟨_, x, rfl, I.hok.fresh (Nat.le_refl _), rfl, fun ys hy => by rw [I.tuple_inj hy hq]; exact hx⟩, ⟨⟨u', ?_⟩, hst'.1.at fun o q => (sb.2 it (Ne.symm hne)).trans q, hne⟩, fun b hb => ?_⟩
    · rw [show ((i + 1 : Nat) : Int) = (i : Int) + 1 by omega]; exact he'
    · have hb2 : b < s.heap.objs.size := by
        rcases (by simpa using hb : b = e ∨ b = it) with z | z
        · rw [z]; exact hel
        · rw [z]; exact hil
      rw [upd_ne (Nat.ne_of_lt hb2)]
      exact (hf b hb).1
  done := by
    intro X hP hw hK hc i pins s σ H E I hf st hg
    subst hP hw hK
    obtain ⟨⟨old, he⟩, hit, hne⟩ := st
    obtain ⟨xs, hq, hx⟩ := hg
    obtain ⟨its, rv, p, hz⟩ := I.tuple hq
    obtain ⟨f0, f1, f2, f3, f4, f5⟩ := hf it (by simp)
    have hl := rv.length
    exact en_end (I.ok.hd hc) he hit (show s.heap.IsTuple a its.toArray from p) (by simp; omega) fun h' eb => ⟨rfl, I.turned (t' := s.toks) (fun b o hb q => eb b o hb q) f0 f1 f3 f4 f5⟩
  self := fun A i s Q E st h => let ⟨⟨_, he⟩, _⟩ := st; wpAny_pyIter_enum he h
def iEnT (K : PySem.W.Frag) (ta : TA) : TI := fun σ H R => ta σ H fun vs H1 => ∃ a xs, vs = [.ref a] ∧ SqT K H1 a xs ∧ R (Itu K a) H1
theorem pi_enT {X : Cx} {e : Expr} {ta : TA} {p pos tpos : Pos} {elts : List Expr} {kk : Nat} (hg : Gl X "enumerate") (hm : X.mg "enumerate" = none) (ha : PA X [e] ta) (hs : starEach [e] X.env = [(false, eval e X.env)] := by rfl) :
    PI X (.Tuple elts kk tpos) (.Call (.Name "enumerate" p) [e] [] pos) (iEnT X.K ta) := by
  refine ⟨fun pins s σ H R I h => ?_⟩
  refine Call_ (ld_blt I hg hm boot_enumerate (PyProof.Rows.callWith_type1 (thn (ha.run pos pins s σ H _ I h) fun us s1 ⟨vs, H1, I1, r1, q1⟩ => ?_) hs rfl))
  obtain ⟨a, xs, ex, hq, q⟩ := q1
  subst ex
  cases r1 with
  | cons r rr =>
    cases rr
    cases r
    obtain ⟨its, rv, p2, hz⟩ := I1.tuple hq
    have p3 : s1.heap.IsTuple a its.toArray := p2
    have hal : a < s1.heap.objs.size := by obtain ⟨_, q, _⟩ := p3; exact Heap.lt_size q
    refine en_call p3 fun h' he hit hk => wpAny_pyIter_enum he ?_
    have I2 : Inv X pins σ H1 { s1 with heap := h' } := I1.kept (t' := s1.toks) hk
    refine ⟨s1.heap.objs.size + 1, [s1.heap.objs.size + 1, s1.heap.objs.size], _, _, H1, rfl, I2, turn_enT a (s1.heap.objs.size + 1) s1.heap.objs.size (Nat.ne_of_lt (Nat.lt_succ_of_lt hal)) (Nat.ne_of_lt hal), ⟨⟨.none, he⟩, hit, Nat.succ_ne_self _⟩, fun b hb => ?_, q⟩
    have hle : s1.heap.objs.size ≤ b := by
      rcases (by simpa using hb : b = s1.heap.objs.size + 1 ∨ b = s1.heap.objs.size) with z | z
      · rw [z]; exact Nat.le_succ _
      · rw [z]; exact Nat.le_refl _
    exact I1.fpOk hle (I1.hok.fresh hle)
/-! the mirror -/
def enumD (ds : List D) : List D := ds.zipIdx.map fun p => .tup [.int (p.2 : Nat), p.1]
theorem enumD_get {ds : List D} {i : Nat} {z : D} (h : (enumD ds)[i]? = some z) : ∃ d, ds[i]? = some d ∧ z = .tup [.int (i : Nat), d] := by
  unfold enumD at h
  rw [List.getElem?_map, List.getElem?_zipIdx] at h
  cases hd : ds[i]? with
  | none => rw [hd] at h; cases h
  | some d => rw [hd] at h; simp at h; exact ⟨d, rfl, h.symm⟩
theorem enumD_len (ds : List D) : (enumD ds).length = ds.length := by unfold enumD; simp
theorem itu_r {K : PySem.W.Frag} {G : Gh} {a : Addr} {vs : List V} {ds : List D} (h : SqT K G.F a vs) (rs : Reps K G vs ds) : ItR K (Itu K a) G (enumD ds) where
  go := fun pn w r g i hi => by
    rw [enumD_len, ← rs.length] at hi
    exact ⟨vs, vs[i], sqT_mono (fun b o q => r.ex b o (g.f b o q)) h, List.getElem?_eq_getElem hi⟩
  yld := fun pn w r g i d x H' hd hy => by
    obtain ⟨T, y, rfl, hT, rfl, hy⟩ := hy
    obtain ⟨d0, h0, rfl⟩ := enumD_get hd
    obtain ⟨v, h1, h2⟩ := rs.get h0
    have e := hy vs (sqT_mono (fun b o q => r.ex b o (g.f b o q)) h)
    rw [h1] at e
    cases e
    have hn := r.noF hT
    exact ⟨_, gle_upd hn, r.new hT, .tup upd_same (.cons (.int _) (.cons (h2.mono (g.trans (gle_upd hn))) .nil))⟩
  stop := fun pn w r g i hi => by
    rw [enumD_len, ← rs.length] at hi
    exact ⟨vs, sqT_mono (fun b o q => r.ex b o (g.f b o q)) h, hi⟩
theorem ite_r {K : PySem.W.Frag} {G : Gh} {a : Addr} {vs : List V} {ds : List D} (h : SqL K G.F a vs) (rs : Reps K G vs ds) : ItR K (Ite K a) G (enumD ds) where
  go := fun pn w r g i hi => by
    rw [enumD_len, ← rs.length] at hi
    exact ⟨vs, vs[i], sqL_mono (fun b o q => r.ex b o (g.f b o q)) h, List.getElem?_eq_getElem hi⟩
  yld := fun pn w r g i d x H' hd hy => by
    obtain ⟨T, y, rfl, hT, rfl, hy⟩ := hy
    obtain ⟨d0, h0, rfl⟩ := enumD_get hd
    obtain ⟨v, h1, h2⟩ := rs.get h0
    have e := hy vs (sqL_mono (fun b o q => r.ex b o (g.f b o q)) h)
    rw [h1] at e
    cases e
    have hn := r.noF hT
    exact ⟨_, gle_upd hn, r.new hT, .tup upd_same (.cons (.int _) (.cons (h2.mono (g.trans (gle_upd hn))) .nil))⟩
  stop := fun pn w r g i hi => by
    rw [enumD_len, ← rs.length] at hi
    exact ⟨vs, sqL_mono (fun b o q => r.ex b o (g.f b o q)) h, hi⟩
def mEnum (m : ME) : MA := bnd m fun d s => match itD d with
  | some ds => .ok (enumD ds) s
  | none => .stuck
theorem ji_enum {X : Cx} {W : WX} {e : Expr} {m : ME} {p pos tpos : Pos} {elts : List Expr} {kk : Nat} (hg : Gl X "enumerate") (hm : X.mg "enumerate" = none) (h : JE X W e m) (hs : starEach [e] X.env = [(false, eval e X.env)] := by rfl) (hs1 : starEach [e] X.env = (false, eval e X.env) :: starEach [] X.env := by rfl) : JI X W (.Tuple elts kk tpos) (.Call (.Name "enumerate" p) [e] [] pos) (mEnum m) := by
  refine PI.imp (PI.or (pi_enum hg hm (pa_cons h pa_nil hs1) hs) (pi_enT hg hm (pa_cons h pa_nil hs1) hs)) fun σ H Q h => ?_
  obtain ⟨w, rfl, rfl, r, h⟩ := h
  have key : ∀ (d : D) (s' : S), m w.s = .ok d s' → ∃ ds, itD d = some ds ∧ okG X.K X.pn W (AI X.K) w Q (.ok (enumD ds) s') := fun d s' e => by
    unfold mEnum bnd at h
    rw [e] at h
    dsimp only at h
    cases hi : itD d with
    | none => rw [hi] at h; exact h.elim
    | some ds => rw [hi] at h; exact ⟨ds, rfl, h⟩
  cases hmm : m w.s with
  | ok d s' =>
    obtain ⟨ds, hi, hk⟩ := key d s' hmm
    cases ht : isTup d with
    | false =>
      refine .inl ⟨w, rfl, rfl, r, ?_⟩
      rw [hmm]
      intro G' v H' g r' p
      obtain ⟨a, vs, rfl, h1, h2⟩ := rep_sq p hi ht
      exact ⟨a, vs, rfl, sqL_mono r'.ex h1, hk G' _ H' g r' (ite_r h1 h2)⟩
    | true =>
      refine .inr ⟨w, rfl, rfl, r, ?_⟩
      rw [hmm]
      intro G' v H' g r' p
      obtain ⟨a, vs, rfl, h1, h2⟩ := rep_st p hi ht
      exact ⟨a, vs, rfl, sqT_mono r'.ex h1, hk G' _ H' g r' (itu_r h1 h2)⟩
  | exc y s' =>
    refine .inl ⟨w, rfl, rfl, r, ?_⟩
    unfold mEnum bnd at h
    rw [hmm] at h ⊢
    exact h
  | stuck =>
    unfold mEnum bnd at h
    rw [hmm] at h
    exact h.elim
end DL

namespace DL
open PySem PySem.Spec PySem.W L2
/-! ### isinstance(e, C), e the caught error, with or without fields -/
section
variable {K : Frag} {x D : Addr} {ox : Obj} {od : Option Obj} {prog : Program} {w : World} {A : Around} {E : Value → Shared → Prop} {s : Shared}
theorem x_cls {Q : Option Value → Shared → Prop} (C : ExcC K D) (X : K.In s.heap) (I : PySem.W.InstAt s.heap x ox D od) (h : Q (some (.ref D)) { s with toks := s.toks + 1 }) : wpAny (model prog w) A (getAttr? (.ref x) "__class__") Q E s := by
  have hf : findObj K D od "__class__" = some (.bind (.builtin "getset_descriptor.__get__") (.builtin "object.__class__")) := by
    obtain ⟨cd, hc, _⟩ := any_some C.hd
    unfold findObj
    rw [hc, Option.bind_some, C.ha, Option.bind_some]
    simp [C.hn, C.ht]
  obtain ⟨hp, gl, dr, tk, os⟩ := s
  have t0 := I.type (M := model prog w)
  have t1 := looks_findIn (M := model prog w) X C.hg
  have t2 := looks_findIn (M := model prog w) X C.hk
  have t3 := looks_find (M := model prog w) X I hf
  have sb : Looks (model prog w) hp (isInstance (.ref x) (.type "BaseException")) true := t0.andThen (looks_subIn X C.hs)
  have n0 : (false && onTheHeap (Value.builtin "BaseException.__getattribute__")) = false := rfl
  have n2 : (Value.builtin "BaseException.__getattribute__" == Value.builtin "object.__getattribute__") = false := by decide +kernel
  have n1 : (onTheHeap (Value.ref D) && Value.builtin "BaseException.__getattribute__" == Value.builtin "object.__getattribute__") = false := by rw [n2]; rfl
  unfold getAttr? getAttrBy? getAttrBy
  refine wpAny_bind (wpAny_mkText (wpAny_bind (wpAny_attempt (wpAny_holding (wpAny_bind (t0.at (wpAny_bind (t1.at ?_))))))))
  show wpAny _ _ (if (onTheHeap (Value.ref D) && Value.builtin "BaseException.__getattribute__" == Value.builtin "object.__getattribute__") = true then _ else _) _ _ _
  rw [n1, if_neg Bool.false_ne_true]
  unfold getAttrByItsOwn hookBefore
  refine wpAny_bind ?_
  rw [if_pos (show onTheHeap (Value.ref D) = true from rfl)]
  refine t2.at (wpAny_bind (wpAny_attempt (wpAny_holding ?_)))
  unfold callGetattribute
  rw [n0, if_neg Bool.false_ne_true]
  unfold boundAndCalled
  rw [PySem.F.excAttr_ValueError.ga.bind (.ref x)]
  refine wpAny_bind (wpAny_pure ?_)
  show wpAny _ _ (call (.builtin "BaseException.__getattribute__") [.ref x, .str "__class__" tk]) _ _ _
  refine wpAny_call (codeAny_call_builtin PySem.F.excAttr_ValueError.ga.plain PySem.F.entry_bexc_ga ?_)
  refine @check_slot (model prog w) _ _ ⟨hp, gl, dr, tk + 1, os⟩ "BaseException.__getattribute__" "BaseException" "__getattribute__" (.ref x) [.str "__class__" tk] [] _ (by decide +kernel) (by decide +kernel) sb (PySem.F.args_bexc_ga (.ref x) (.str "__class__" tk)) ?_
  unfold Builtin.«object.__getattribute__»
  refine wpAny_bind (wpAny_of_eq (a := ((Value.ref x : Value), [Value.str "__class__" tk])) (by first | rfl | (simp only [slotArgs]; rfl)) ?_)
  refine wpAny_bind (wpAny_pure (wpAny_bind (t0.at (wpAny_bind (t3.at ?_)))))
  show wpAny _ _ (holding [Value.builtin "object.__class__"] (call (.builtin "getset_descriptor.__get__") [.builtin "object.__class__", .ref x, .ref D]) >>= PySem.ret) _ _ _
  refine wpAny_bind (wpAny_holding (wpAny_call (class_get (s := ⟨hp, gl, dr, tk + 1, os⟩) (ox := ox) (od := od) X I C.hm ?_)))
  refine wpAny_pure ?_
  show wpAny _ _ (handedOut (.ref D)) _ _ _
  rw [handedOut_of (v := .ref D) rfl]
  first
    | exact wpAny_pure (wpAny_pure h)
    | exact wpAny_pure (wpAny_bind (wpAny_pure (wpAny_pure h)))
    | exact wpAny_pure h
theorem x_kit (C : ExcC K D) : KitX K (.ref x) (.ref D) (fun h => PySem.W.InstAt h x ox D od) where
  ty := fun _ _ _ I => I.type
  it := fun _ _ X _ => by
    obtain ⟨cdD, hcD, _⟩ := any_some C.hd
    unfold clsIn at hcD
    split at hcD
    · rename_i ho
      intro A2 Q2 E2 s2 k q
      unfold isType loadHead
      exact wpAny_bind (wpAny_loadPart (k _ _ (X _ _ ho)) (wpAny_pure q))
    · cases hcD
  ne := fun h tp dd its n sl X htp => (handS_kitx_exc (x := x) (ox := ox) C.hg C.hk C.hs C.hd C.ha C.hn C.ht C.hm).ne h tp dd its n sl X htp
  ca := fun X I k => x_cls C X I k
end
def rIsX (K : Frag) (cls : Value) (dd : Option Addr) (D a : Addr) : List V → Hp → VK → Prop := fun xs H Q => ∃ (c : V) (cv : Value) (b : Bool), xs = [.ref a, c] ∧ cls = .ref D ∧ (dd = none ∨ ∃ p fs, dd = some p ∧ H p = some (.xd fs)) ∧ (∀ u, RelV c u → u = cv) ∧ kitOne K (.ref D) cv = some b ∧ Q (.bl b) H
theorem call_isX {X : Cx} {a D : Addr} {oe : Obj} {cls : Value} {dd : Option Addr} {pn : List (Addr × Obj)} (C : ExcC X.K D) (hz : Zc cls dd oe) (hf : ∃ vs, oe.data = .fields vs) : CallR (X.suite a ((a, oe) :: pn)) (.builtin "isinstance") (rIsX X.K cls dd D a) := by
  intro pins s σ H xs us Q I r h
  obtain ⟨c, cv, b, rfl, rfl, hdd, hcv, e, q⟩ := h
  obtain ⟨u1, u2, rfl, r1, r2⟩ := vals2 r
  cases r1
  have ec := hcv _ r2
  subst ec
  obtain ⟨hget, _⟩ := I.pin (a, oe) (List.mem_append.mpr (.inl List.mem_cons_self))
  obtain ⟨vs, hv⟩ := hf
  have no : notCls oe = true := by unfold notCls; rw [hv] <;> rfl
  obtain ⟨od, J⟩ : ∃ od, PySem.W.InstAt s.heap a oe D od := by
    rcases hdd with rfl | ⟨p, fs, rfl, hp⟩
    · exact ⟨none, hget, hz.1, no, by rw [hz.2]; trivial⟩
    · obtain ⟨mA, hns, _⟩ := (show ObjOk X.prog X.w H s.heap p (.xd fs) from I.hok p _ hp)
      obtain ⟨od, ho, _⟩ := lookIn_ns hns
      exact ⟨some od, hget, hz.1, no, by rw [hz.2]; exact ho⟩
  exact kia_one (x_kit C) I.kIn J e (fun z => nomatch z) fun tk => ⟨.bl b, H, I.kept (t' := tk) fun _ _ z => z, rfl, q⟩
/-- isinstance(e, C): e in slot i; tab: by the error's class -/
def mIsX (tab : Str → Option Bool) (i : Nat) : ME := fun s => match s.sl[i]? with
  | some (.xn x) => (match tab x.c with
    | some b => .ok (.bl b) s
    | none => .stuck)
  | _ => .stuck
section
variable {X : Cx} {a : Addr} {oe : Obj} {cls : Value} {d : Option Addr} {pn : List (Addr × Obj)} {i : Nat} {y c : Str} {p q pos fp : Pos}
/-- a call rule that may lean on the class of the error that is held -/
theorem call_isXs {tab : Str → Option Bool} {cv : Value} (hC : ∀ z b, tab z = some b → ExcC X.K (He.ga X.K z) ∧ kitOne X.K (.ref (He.ga X.K z)) cv = some b) (hz : Zc cls d oe) (hf : ∃ vs, oe.data = .fields vs) :
    CallR (X.suite a ((a, oe) :: pn)) (.builtin "isinstance") (fun xs H Q => ∃ z b, tab z = some b ∧ cls = .ref (He.ga X.K z) ∧ (d = none ∨ ∃ p fs, d = some p ∧ H p = some (.xd fs)) ∧ (∃ v, xs = [.ref a, v] ∧ ∀ u, RelV v u → u = cv) ∧ Q (.bl b) H) := by
  intro pins s σ H xs us Q I r h
  obtain ⟨z, b, h1, h2, h3, ⟨v, rfl, h4⟩, q⟩ := h
  obtain ⟨C, k⟩ := hC z b h1
  exact call_isX C hz hf pins s σ H _ us Q I r ⟨v, cv, b, rfl, h2, h3, h4, k, q⟩
theorem je_isX {tab : Str → Option Bool} {cv : Value} {v : V} (hC : ∀ z b, tab z = some b → ExcC X.K (He.ga X.K z) ∧ kitOne X.K (.ref (He.ga X.K z)) cv = some b) (hz : Zc cls d oe) (hf : ∃ vs, oe.data = .fields vs) (hg : Gl X "isinstance") (hm : X.mg "isinstance" = none)
    (hc : PE (X.suite a ((a, oe) :: pn)) (.Name c q) (tC v)) (hcv : ∀ u, RelV v u → u = cv) (hN : X.N[i]? = some y := by rfl) (hv : Vis X.env.scope y := by first | exact Or.inl rfl | exact Or.inr (Or.inl rfl) | exact Or.inr (Or.inr rfl)) (hd : (y == ("__debug__" : Str)) = false := by decide) (hcd : (y == ("__classdict__" : Str)) = false := by decide)
    (hs : starEach [.Name y p, .Name c q] X.env = (false, eval (.Name y p) X.env) :: starEach [.Name c q] X.env := by rfl) (hs2 : starEach [.Name c q] X.env = (false, eval (.Name c q) X.env) :: starEach [] X.env := by rfl) (h2 : (backTo pos (starEach [.Name c q] X.env)).any (·.1) = false := by rfl) :
    JE (X.suite a ((a, oe) :: pn)) WF (.Call (.Name "isinstance" fp) [.Name y p, .Name c q] [] pos) (mIsX tab i) := by
  refine PE.imp (pe_callB (X := X.suite a ((a, oe) :: pn)) (call_isXs hC hz hf) hg hm rfl (pa_cons (pv (X := X.suite a ((a, oe) :: pn)) i hN hv hd hcd) (pa_cons hc pa_nil hs2) hs) (by decide) (by decide) hs h2) fun σ H Q h => ?_
  obtain ⟨w, rfl, rfl, r, h⟩ := h
  unfold mIsX at h
  split at h
  · rename_i x hx
    split at h
    · rename_i b hb
      obtain ⟨a', oe', tl, cls', d', e1, e2, e3, e4⟩ := r.sl.xn i x hx
      cases e1
      have ec : cls' = cls := e3.1.symm.trans hz.1
      have ed : d' = d := e3.2.symm.trans hz.2
      subst ec ed
      obtain ⟨q1, q2⟩ := e4
      refine ⟨_, e2, x.c, b, hb, q1, ?_, ⟨v, rfl, hcv⟩, h _ _ _ (.refl _) r (.bl _)⟩
      cases hfs : x.fs with
      | nil => rw [hfs] at q2; exact .inl q2
      | cons f fs =>
        rw [hfs] at q2
        obtain ⟨b2, fvs, k1, k2, _⟩ := q2
        exact .inr ⟨b2, fvs, k1, r.ex _ _ k2⟩
    · exact h.elim
  · exact h.elim
end
end DL

/-! The head's Hook, widened: facts of one's own, error classes. -/
namespace HK
open PySem PySem.Spec PySem.W L2 DL He
/-- an error class: its name, its field, its __init__'s qualified name, the text, the places -/
structure XD where
  c : Str
  f : Str
  q : Str
  txt : Str
  p : XPos
  p6 : Pos
abbrev XW : Type := Option (Str × Str × Arguments × FuncBody × Scope × Addr × List Str × Addr)
def iAd (K : Frag) (d : XD) : Addr := ma K (ga K d.c) "__init__"
def xW (K : Frag) (d : XD) : XW := match K.lookup (iAd K d) with
  | some ⟨_, _, .func fd, _⟩ => some (fd.name, fd.qualname, fd.params, fd.body, fd.scope, fd.globals, fd.closure.map (·.1), fd.builtins)
  | _ => none
def XD.val (d : XD) : XW := some ("__init__", d.q, xParams d.f d.p, .stmts [xSuper d.txt d.p d.p6, xStore d.f d.p], xScope d.f, mainGlobals, ["__class__"], builtinsNs)
def fileB (K : Frag) (file : Str) : Value → Bool
  | .ref cda => (match K.lookup cda with
    | some ⟨_, _, .fields vs, _⟩ => (match vs[2]? with
      | some (Value.str y _) => (file == y)
      | _ => false)
    | _ => false)
  | _ => false
def cellB (K : Frag) (C : Addr) : List (Str × Addr) → Bool
  | [(_, cc)] => (match K.lookup cc with
    | some ⟨_, _, .cell (some (.ref b)), _⟩ => decide (b = C)
    | _ => false)
  | _ => false
def noneB : Value → Bool
  | .none => true
  | _ => false
def excB (K : Frag) (C : Addr) : Bool := eqO (findIn K (.ref C) "__class__") (some (some (.builtin "object.__class__"))) && (eqO (specialIn K (.builtin "object.__class__") "__get__") (some (some (.builtin "getset_descriptor.__get__"))) && (decide (takesIn K (.builtin "object.__class__") = some true) && (decide (mroIn K C (.type "object") = some true) && xfB K C)))
theorem excB_ok {K : Frag} {C : Addr} (h : excB K C = true) : ExcC K C := by
  obtain ⟨h1, h⟩ := ba h
  obtain ⟨h2, h⟩ := ba h
  obtain ⟨h3, h⟩ := ba h
  obtain ⟨h4, h⟩ := ba h
  obtain ⟨k1, k2, k3, k4⟩ := xfB_ok h
  exact ⟨k1, k2, k3, k4, eqO_ok h1, eqO_ok h2, of_decide_eq_true h3, of_decide_eq_true h4⟩
def xFunB (K : Frag) (file : Str) (d : XD) : Bool := match K.lookup (iAd K d) with
  | some ⟨_, _, .func fd, _⟩ => codeIn K fd.code d.q && (fileB K file fd.code && (cellB K (ga K d.c) fd.closure && (noneB fd.defaults && noneB fd.kwdefaults)))
  | _ => false
def xB1 (K : Frag) (d : XD) : Bool := excInitIn K (ga K d.c) HandSPX.veTail "ValueError.__new__" && ((match clsIn K (ga K d.c) with
  | some cd => HandSPX.refsVE cd.mro && cd.hasDict
  | none => false) && (eqO (findIn K (.ref (ga K d.c)) "__setattr__") (some (some (.builtin "object.__setattr__"))) && (eqO (findIn K (.ref (ga K d.c)) d.f) (some none) && (keepIn K (.ref (ga K d.c)) && (decide (subIn K (.ref (ga K d.c)) (.type "BaseException") = some true) && decide (subIn K (.ref (ga K d.c)) (.type "ValueError") = some true))))))
def xB2 (K : Frag) (d : XD) : Bool := decide (typeIn K (.ref (ga K d.c)) = some (.type "type")) && (eqO (ks_superIn K (ga K d.c) (ga K d.c) "__init__") (some (some (.builtin "ValueError.__init__"))) && (decide (mroIn K (ga K d.c) (.ref (ga K d.c)) = some true) && (eqO (nsIn K cStatics "thirdparty.any") (some none) && (eqO (findIn K (.ref (ga K d.c)) "__init__") (some (some (.ref (iAd K d)))) && decide (typeIn K (.ref (iAd K d)) = some (.type "function"))))))
def XD.ok (K : Frag) (file : Str) (d : XD) : Bool := xB1 K d && (xB2 K d && (xFunB K file d && excB K (ga K d.c)))
/-- what is asked of the field's name -/
def XD.nm (d : XD) : Bool := decide (¬ d.f = "self") && (decide (¬ d.f = "super") && (decide (¬ d.f = "__class__") && (!(d.f == ("__debug__" : Str)))))
theorem XD.xc {P : Program} {K : Frag} {mg : Str → Option Value} {d : XD} (e : xW K d = d.val) (c : d.ok K P.main.file = true) (hn : d.nm = true) (hg : mg "super" = none) (ht : (P.main.scope.names.lookup ("super" : Str)).isSome = false) (hl : (d.p.b3.endLine == d.p.b5.line) = true)
    (hb : ∀ cc doc pm an cdv ct a b, bindArgs (fnX "__init__" d.q (xParams d.f d.p) [xSuper d.txt d.p d.p6, xStore d.f d.p] (xScope d.f) [("__class__", cc)] .none .none doc pm an (.ref cdv) ct) ⟨[a, b], []⟩ = pure [(("self" : Str), a), (d.f, b)]) : XC P K mg (ga K d.c) d.f := by
  obtain ⟨c1, c⟩ := ba c
  obtain ⟨c2, c⟩ := ba c
  obtain ⟨c3, c4⟩ := ba c
  obtain ⟨a1, c1⟩ := ba c1
  obtain ⟨a2, c1⟩ := ba c1
  obtain ⟨a3, c1⟩ := ba c1
  obtain ⟨a4, c1⟩ := ba c1
  obtain ⟨a5, c1⟩ := ba c1
  obtain ⟨a6, a7⟩ := ba c1
  obtain ⟨b1, c2⟩ := ba c2
  obtain ⟨b2, c2⟩ := ba c2
  obtain ⟨b3, c2⟩ := ba c2
  obtain ⟨b4, c2⟩ := ba c2
  obtain ⟨b5, b6⟩ := ba c2
  obtain ⟨n1, hn⟩ := ba hn
  obtain ⟨n2, hn⟩ := ba hn
  obtain ⟨n3, n4⟩ := ba hn
  refine ⟨a1, ?_, eqO_ok a3, eqO_ok a4, a5, of_decide_eq_true a6, of_decide_eq_true a7, of_decide_eq_true b1, eqO_ok b2, of_decide_eq_true b3, eqO_ok b4, hg, ht, ?_, of_decide_eq_true n1, of_decide_eq_true n2, of_decide_eq_true n3, by simpa using n4⟩
  · cases q : clsIn K (ga K d.c) with
    | none => rw [q] at a2; cases a2
    | some cd =>
      rw [q] at a2
      obtain ⟨z1, z2⟩ := ba a2
      exact ⟨cd, rfl, z1, z2⟩
  · unfold xFunB at c3
    unfold xW at e
    cases q : K.lookup (iAd K d) with
    | none => rw [q] at c3; cases c3
    | some o =>
      obtain ⟨oc, od, dt, osl⟩ := o
      rw [q] at c3 e
      cases dt with
      | func fd =>
        obtain ⟨m1, m2, m3, m4, m5, m6, m7, m8, m9, m10, m11, m12, m13, m14, m15⟩ := fd
        have e2 : (some (m1, m2, m3, m4, m5, m6, m7.map (·.1), m15) : XW) = d.val := e
        unfold XD.val at e2
        simp only [Option.some.injEq, Prod.mk.injEq] at e2
        obtain ⟨h1, h2, h3, h4, h5, h6, h7, h8⟩ := e2
        subst h1 h2 h3 h4 h5 h6 h8
        obtain ⟨k1, c3⟩ := ba (show (codeIn K m13 d.q && (fileB K P.main.file m13 && (cellB K (ga K d.c) m7 && (noneB m8 && noneB m9)))) = true from c3)
        obtain ⟨k2, c3⟩ := ba c3
        obtain ⟨k3, c3⟩ := ba c3
        obtain ⟨k4, k5⟩ := ba c3
        have e8 : m8 = .none := by cases m8 <;> first | rfl | cases k4
        have e9 : m9 = .none := by cases m9 <;> first | rfl | cases k5
        subst e8 e9
        match m7, h7, k3 with
        | [(z, cc)], h7, k3 =>
          have ez : z = "__class__" := by simpa using h7
          subst ez
          cases m13 with
          | ref cda =>
            have hcell : ∃ (cl : Value) (cld : Option Addr) (csl : Array (Option Value)), K.lookup cc = some ⟨cl, cld, .cell (some (.ref (ga K d.c))), csl⟩ := by
              have k3 : (match K.lookup cc with
                | some ⟨_, _, .cell (some (.ref b)), _⟩ => decide (b = ga K d.c)
                | _ => false) = true := k3
              split at k3
              · rename_i hh
                have := of_decide_eq_true k3
                subst this
                exact ⟨_, _, _, hh⟩
              · cases k3
            have hfile : ∃ (ccl : Value) (cdd : Option Addr) (vs : Array Value) (ccs : Array (Option Value)) (file : Str) (tf : Tok), K.lookup cda = some ⟨ccl, cdd, .fields vs, ccs⟩ ∧ vs[2]? = some (.str file tf) ∧ ((P.main.file : Str) == file) = true := by
              have k2 : (match K.lookup cda with
                | some ⟨_, _, .fields vs, _⟩ => (match vs[2]? with
                  | some (Value.str y _) => (P.main.file == y)
                  | _ => false)
                | _ => false) = true := k2
              split at k2
              · rename_i hh
                split at k2
                · rename_i hv
                  exact ⟨_, _, _, _, _, _, hh, hv, k2⟩
                · cases k2
              · cases k2
            exact ⟨iAd K d, oc, od, m10, m11, m12, cda, m14, osl, cc, d.p, d.p6, d.txt, d.q, hl, fun a b => hb cc m10 m11 m12 cda m14 a b, eqO_ok b5, of_decide_eq_true b6, q, k1, hfile, hcell⟩
          | _ => cases k2
        | [], h7, k3 => cases k3
        | _ :: _ :: _, h7, k3 => cases k3
      | _ => cases c3
/-! ### the Hook -/
abbrev AlX : Type := Bool × List FnW × List XW
def obsX (file : Str) (fa : List Fa) (fb : List (Frag → Bool)) (fn : List DefD) (xs : List XD) (K : Frag) : AlX := ((fa.all fun f => f.ok K) && ((fb.all fun f => f K) && ((fn.all fun d => d.ok K) && xs.all fun d => d.ok K file)), fn.map fun d => fnW K d.at_, xs.map fun d => xW K d)
def valX (fn : List DefD) (xs : List XD) : AlX := (true, fn.map DefD.val, xs.map XD.val)
def SaysX (file : Str) (fa : List Fa) (fb : List (Frag → Bool)) (fn : List DefD) (xs : List XD) (K : Frag) : Prop := obsX file fa fb fn xs K = valX fn xs
def obsXG (n : Nat) (file : Str) (fa : List Fa) (fb : List (Frag → Bool)) (fn : List DefD) (xs : List XD) (g : Addr → Option Obj) : AlX := obsX file fa fb fn xs (frG g (cStatics :: asD g n))
def hookX (n : Nat) (file : Str) (fa : List Fa) (fb : List (Frag → Bool)) (fn : List DefD) (xs : List XD) : Hook where
  α := AlX
  obs := fun s => obsXG n file fa fb fn xs s.heap.get?
  val := fun _ => valX fn xs
  says := fun _ h => ∃ K : Frag, K.In h ∧ SaysX file fa fb fn xs K
  of := fun _ _ e => ⟨_, frG_in, e⟩
  keeps := fun _ _ _ ⟨K, hK, c⟩ k => ⟨K, Frag.In.keeps hK k, c⟩
theorem obsXG_eq {n : Nat} {file : Str} {fa : List Fa} {fb : List (Frag → Bool)} {fn : List DefD} {xs : List XD} {g : Addr → Option Obj} {s : Shared} (h : ∀ a, g a = s.heap.get? a) : obsXG n file fa fb fn xs g = (hookX n file fa fb fn xs).obs s := by
  have e : g = s.heap.get? := funext h
  rw [e] <;> rfl
section
variable {file : Str} {fa : List Fa} {fb : List (Frag → Bool)} {fn : List DefD} {xs : List XD} {K : Frag}
theorem SaysX.bits (c : SaysX file fa fb fn xs K) : (fa.all fun f => f.ok K) = true ∧ (fb.all fun f => f K) = true ∧ (fn.all fun d => d.ok K) = true ∧ (xs.all fun d => d.ok K file) = true := by
  obtain ⟨h1, h⟩ := ba (show ((fa.all fun f => f.ok K) && ((fb.all fun f => f K) && ((fn.all fun d => d.ok K) && xs.all fun d => d.ok K file))) = true from congrArg (fun z : AlX => z.1) c)
  obtain ⟨h2, h⟩ := ba h
  obtain ⟨h3, h4⟩ := ba h
  exact ⟨h1, h2, h3, h4⟩
theorem SaysX.fact (c : SaysX file fa fb fn xs K) (i : Nat) {f : Fa} (h : fa[i]? = some f := by rfl) : f.ok K = true := List.all_eq_true.mp c.bits.1 f (List.mem_of_getElem? h)
theorem SaysX.fx (c : SaysX file fa fb fn xs K) (i : Nat) {f : Frag → Bool} (h : fb[i]? = some f := by rfl) : f K = true := List.all_eq_true.mp c.bits.2.1 f (List.mem_of_getElem? h)
theorem SaysX.def_ (c : SaysX file fa fb fn xs K) (i : Nat) {d : DefD} (h : fn[i]? = some d := by rfl) : ∃ fd, FunD K d.name d.qual d.params d.body d.scope (d.dvs K) (d.kws K) (fAd K d.at_) fd := by
  have e : fn.map (fun d => fnW K d.at_) = fn.map DefD.val := congrArg (fun z : AlX => z.2.1) c
  have e2 : (fn.map fun d => fnW K d.at_)[i]? = (fn.map DefD.val)[i]? := by rw [e]
  rw [List.getElem?_map, List.getElem?_map, h] at e2
  exact DefD.funD (Option.some.inj e2) (List.all_eq_true.mp c.bits.2.2.1 d (List.mem_of_getElem? h))
theorem SaysX.xc {P : Program} {mg : Str → Option Value} (c : SaysX P.main.file fa fb fn xs K) (i : Nat) {d : XD} (h : xs[i]? = some d) (hn : d.nm = true) (hg : mg "super" = none) (ht : (P.main.scope.names.lookup ("super" : Str)).isSome = false) (hl : (d.p.b3.endLine == d.p.b5.line) = true)
    (hb : ∀ cc doc pm an cdv ct a b, bindArgs (fnX "__init__" d.q (xParams d.f d.p) [xSuper d.txt d.p d.p6, xStore d.f d.p] (xScope d.f) [("__class__", cc)] .none .none doc pm an (.ref cdv) ct) ⟨[a, b], []⟩ = pure [(("self" : Str), a), (d.f, b)]) : XC P K mg (ga K d.c) d.f := by
  have e : xs.map (fun d => xW K d) = xs.map XD.val := congrArg (fun z : AlX => z.2.2) c
  have e2 : (xs.map fun d => xW K d)[i]? = (xs.map XD.val)[i]? := by rw [e]
  rw [List.getElem?_map, List.getElem?_map, h] at e2
  exact XD.xc (Option.some.inj e2) (List.all_eq_true.mp c.bits.2.2.2 d (List.mem_of_getElem? h)) hn hg ht hl hb
theorem SaysX.xf (c : SaysX file fa fb fn xs K) (i : Nat) {d : XD} (h : xs[i]? = some d) : XfC K (ga K d.c) ∧ ExcC K (ga K d.c) ∧ findIn K (.ref (ga K d.c)) d.f = some none := by
  obtain ⟨c1, c⟩ := ba (List.all_eq_true.mp c.bits.2.2.2 d (List.mem_of_getElem? h))
  obtain ⟨c2, c⟩ := ba c
  obtain ⟨c3, c4⟩ := ba c
  obtain ⟨a1, c1⟩ := ba c1
  obtain ⟨a2, c1⟩ := ba c1
  obtain ⟨a3, c1⟩ := ba c1
  obtain ⟨a4, c1⟩ := ba c1
  have k := excB_ok c4
  exact ⟨⟨k.hg, k.hk, k.hs, k.hd⟩, k, eqO_ok a4⟩
end
end HK

namespace DL
open PySem PySem.Spec L2
/-- nothing flies -/
theorem tkF {X : Cx} : Takes X WF := fun u s' x => by
  obtain ⟨a, B, sI, pins, σ, H, cls, d, e, I, nb, up, sky, na, os, ag, w⟩ := x
  exact w.elim
/-- slot i != e, the slot only looked at -/
def mNeV (i : Nat) (m : ME) : ME := fun s => match cur s i with
  | some _ => bnd m (fun e s => match cur s i with
    | some d => lift (fNe d e) s
    | none => .stuck) s
  | none => .stuck
theorem dp_al {K : PySem.W.Frag} {pn : List (Addr × Obj)} {w : Wd} {v : V} {d : D} {p : PyData} (r : Rel K pn w) (h : pd 50 d = some p) (q : AL K w v d) : Dp K w.H v p := by
  rcases q with q | ⟨a, vs, ds, rfl, rfl, h1, h2⟩
  · exact pd_dp r 50 v d p h q
  · simp only [pd] at h
    cases hp : pds (pd 49) ds with
    | none => rw [hp] at h; cases h
    | some ps =>
      rw [hp] at h; cases h
      exact .lst (SqL.of h1) (pds_dp (pd_dp r 49) hp h2)
section
variable {X : Cx} {W : WX} {b : Expr} {mb : ME} {pos p : Pos}
theorem neV_run {i : Nat} {σ : L2.St} {H : Hp} {Q : VK} (h : tG X.K X.pn W (AR X.K) (mNeV i mb) σ H Q) : tOp (rNeX X.K) (tVar i) (tG X.K X.pn W (AR X.K) mb) σ H Q := by
  obtain ⟨w, rfl, rfl, r, h⟩ := h
  unfold mNeV at h
  cases hc : cur w.s i with
  | none => simp only [hc] at h; exact h.elim
  | some d0 =>
    simp only [hc] at h
    obtain ⟨v, h1, _⟩ := slot_val r hc
    refine ⟨v, h1, ?_⟩
    refine run r h fun e s' G' y H' g r' p h' => ?_
    cases hc2 : cur s' i with
    | none => simp only [hc2] at h'; exact h'.elim
    | some d =>
      simp only [hc2] at h'
      obtain ⟨v2, h2, h3⟩ := slot_val r' hc2
      have h2 : w.σ[i]? = some (some v2) := h2
      rw [h1] at h2
      cases h2
      cases hz : fNe d e with
      | none => rw [hz] at h'; exact h'.elim
      | some z =>
        rw [hz] at h'
        unfold fNe at hz
        split at hz
        · rename_i hh
          obtain ⟨p1, hp⟩ := Option.isSome_iff_exists.mp hh.1
          obtain ⟨q1, hq⟩ := Option.isSome_iff_exists.mp hh.2
          rw [deq_pd 50 d e p1 q1 hp hq] at hz
          cases hz
          obtain ⟨a1, a2⟩ := pd_ok 50 d p1 hp
          obtain ⟨b1, b2⟩ := pd_ok 50 e q1 hq
          exact ⟨p1, q1, dp_al r' hp h3, pd_dp r' 50 y e q1 hq p, a1, b1, a2, h' _ _ _ (.refl _) r' (.bl _)⟩
        · cases hz
theorem jt_neV (i : Nat) {x : Str} (hu : X.A.units + 64 < cLine) (hb : JE X W b mb) (hN : X.N[i]? = some x := by rfl) (hv : Vis X.env.scope x := by first | exact Or.inl rfl | exact Or.inr (Or.inl rfl) | exact Or.inr (Or.inr rfl)) (hd : (x == ("__debug__" : Str)) = false := by decide) (hcd : (x == ("__classdict__" : Str)) = false := by decide) :
    JT X W (.Compare (.Name x p) [.NotEq] [b] pos) (mBl (mNeV i mb)) := by
  refine PT.imp (pt_cmpR (op_neX hu) (pv i hN hv hd hcd) hb (nomark _)) fun σ H Q h => ?_
  obtain ⟨w, rfl, rfl, r, h⟩ := h
  refine neV_run ?_
  refine run r h fun d s' G' v H' g r' p h' => ?_
  obtain ⟨k, e, q⟩ := optB_fin h' r'
  unfold isBl at e
  split at e
  · cases e
    cases p
    exact ⟨_, rfl, q⟩
  · cases e
/-- one class of error -/
def tab1 (c : Str) (b : Bool) : Str → Option Bool := fun z => if z = c then some b else none
theorem tab1_ok {c : Str} {b : Bool} {F : Str → Bool → Prop} (h : F c b) : ∀ z b', tab1 c b z = some b' → F z b' := fun z b' e => by
  unfold tab1 at e
  split at e
  · rename_i hz; cases e; subst hz; exact h
  · cases e
def blkB (N : List Str) (sc scope : Scope) (own : List (Str × Nat)) : Bool := decide (scope.kind = .function) && ((scope.names.all fun y => decide (scope.names.lookup y.1 = some y.2)) && ((own.all fun p => decide (N[p.2]? = some p.1)) && ((scope.names.all fun y => decide (y.2 ≠ .free) || (decide (sc.names.lookup y.1 = some .cell) || decide (sc.names.lookup y.1 = some .free))) &&
  (scope.names.all fun y => decide (y.2 ≠ .local ∧ y.2 ≠ .cell) || ((own.map (·.1)).contains y.1 || !N.contains y.1)))))
theorem blk_ok {scope : Scope} {own : List (Str × Nat)} (h : blkB X.N X.env.scope scope own = true) : BlkOk X.N X.env.scope scope own := by
  obtain ⟨h1, h⟩ := Bool.and_eq_true_iff.mp h
  obtain ⟨h2, h⟩ := Bool.and_eq_true_iff.mp h
  obtain ⟨h3, h⟩ := Bool.and_eq_true_iff.mp h
  obtain ⟨h4, h5⟩ := Bool.and_eq_true_iff.mp h
  rw [List.all_eq_true] at h2 h3 h4 h5
  refine ⟨of_decide_eq_true h1, fun y hy => of_decide_eq_true (h2 y hy), fun q hq => of_decide_eq_true (h3 q hq), fun y hy e => ?_, fun y hy e => ?_⟩
  · have z := h4 y hy
    rw [e] at z
    simpa using z
  · have z := h5 y hy
    rcases e with e | e <;> rw [e] at z <;> simpa using z
end
end DL

namespace DL
open PySem PySem.Spec L2
/-- the def x of the module, as the written part has it -/
def FnW (K : PySem.W.Frag) (x : Str) (st : Stmt) : Prop := ∃ fd, FunD K x x (defArgs st) (defBody st) (defScope st) [] [] (He.ga K x) fd
/-- what is known of a def: it does fn -/
def Kn (P : Program) (w : World) (K : PySem.W.Frag) (mg : Str → Option Value) (base : Heap) (x : Str) (k : Nat) (ps : List Str) (fn : Fn) : Prop := ∃ f fd, FnOk P w K mg base (L2.CX P w) k f fd ps (spF K ps.length fn) ∧ mg x = some (.ref f) ∧ PySem.W.keepIn K (.ref f) = true ∧ Binds K fd ps [] ∧ ∃ oc od osl, K.lookup f = some ⟨oc, od, .func fd, osl⟩
/-- an error class with a field -/
def XF (P : Program) (K : PySem.W.Frag) (mg : Str → Option Value) (c f : Str) : Prop := XC P K mg (He.ga K c) f ∧ XfC K (He.ga K c) ∧ ExcC K (He.ga K c) ∧ PySem.W.findIn K (.ref (He.ga K c)) f = some none ∧ True
theorem FunD.look {K : PySem.W.Frag} {x q : Str} {params : Arguments} {body : List Stmt} {scope : Scope} {dvs : List V} {kws : List (Str × V)} {f : Addr} {fd : FuncData} (F : FunD K x q params body scope dvs kws f fd) : ∃ oc od osl, K.lookup f = some ⟨oc, od, .func fd, osl⟩ := by
  obtain ⟨oc, od, dV, kV, doc, pm, an, cdv, ct, osl, _, lk, _⟩ := F.ex
  exact ⟨oc, od, osl, lk⟩
section
variable {P : Program} {w : World} {K : PySem.W.Frag} {mg : Str → Option Value} {base : Heap} {x : Str} {st : Stmt}
theorem kn_ok {N ps : List Str} {k : Nat} {m : MS} (F : FnW K x st) (hm : mg x = some (.ref (He.ga K x))) (Sc : FnScope N ps (defScope st))
    (hbn : ∀ (kV doc pm : Value) (an : Option Addr) (cdv ct : Value) (us : List Value), us.length = ps.length → bindArgs (PySem.W.fnOf x x (defArgs st) (defBody st) (defScope st) .none kV doc pm an cdv ct) ⟨us, []⟩ = pure (ps.zip us))
    (hb : ∀ (cdv : Value) (A : Around) (outer : List Env) (s : Shared) (H : Hp) (E : XK), Room k (A.deeper (PyProof.Rows.envOfC x (defScope st) s.heap.objs.size (He.ga K x) cdv)) →
      Takes (cxOf (L2.CX P w) P w K mg base N x (defScope st) (He.ga K x) cdv A outer s H E) (fun c d _ H => E c d H) → PassesOwn (model P w) (A.deeper (PyProof.Rows.envOfC x (defScope st) s.heap.objs.size (He.ga K x) cdv)) (PyProof.Rows.envOfC x (defScope st) s.heap.objs.size (He.ga K x) cdv) (cxOf (L2.CX P w) P w K mg base N x (defScope st) (He.ga K x) cdv A outer s H E).xe →
      (A.deeper (PyProof.Rows.envOfC x (defScope st) s.heap.objs.size (He.ga K x) cdv)).units + 64 < cLine → (A.deeper (PyProof.Rows.envOfC x (defScope st) s.heap.objs.size (He.ga K x) cdv)).units + 1 < cLine →
      JSs (cxOf (L2.CX P w) P w K mg base N x (defScope st) (He.ga K x) cdv A outer s H E) (fun c d _ H => E c d H) (defBody st) m) :
    Kn P w K mg base x (k + 1) ps (fnM N.length m) := by
  obtain ⟨fd, F⟩ := F
  refine ⟨He.ga K x, fd, fn_ok F Sc fun cdv A outer s H E hr => ?_, hm, F.kp, F.bindsN hbn, FunD.look F⟩
  exact hb cdv A outer s H E hr (takes_of rfl rfl rfl rfl) (passes_of (X := cxOf (L2.CX P w) P w K mg base N x (defScope st) (He.ga K x) cdv A outer s H E) rfl) (by have := hr.un; omega) (by have := hr.un; omega)
end
section
variable {X : Cx} {W : WX} {k : Nat} {ps : List Str} {fn : Fn} {x : Str} {p pos : Pos} {e : Expr} {es : List Expr} {m : MA}
theorem je_callK (C : Kn X.prog X.w X.K X.mg X.base x k ps fn) (hr : Room k X.A) (tk : Takes X W) (hg : Gl X x)
    (ha : JA X W (e :: es) m) (hl : (e :: es).length = ps.length := by rfl) (hdb : (x == ("__debug__" : Str)) = false := by decide) (he : starEach (e :: es) X.env = (false, eval e X.env) :: starEach es X.env := by rfl) (hpl : (backTo pos (starEach es X.env)).any (·.1) = false := by rfl) :
    JE X W (.Call (.Name x p) (e :: es) [] pos) (mCall fn m) := by
  obtain ⟨f, fd, F, hm, hk, hb, _⟩ := C
  exact je_call F hr tk hg hm hk hb ha hl hdb he hpl
end
end DL

namespace DL
open PySem PySem.Spec L2
/-! ### the law's own def, at the end -/
theorem law_cx {P : Program} {w : World} {K : PySem.W.Frag} {mg : Str → Option Value} {base : Heap} {k : Nat} {f : Addr} {fd : FuncData} {ps : List Str} {sp : Sp} (F : FnOk P w K mg base (L2.CX P w) k f fd ps sp) : FnOk P w K mg base (fun _ _ _ _ _ _ => False) k f fd ps (fun vs H Q _ => sp vs H Q fun _ _ _ => False) := by
  refine ⟨fun vs H Q E h => F.len vs H Q _ h, fun A outer s H args us vs Q E hr e0 hb hv h => ?_⟩
  refine codeAny_mono (F.run A outer s H args us vs Q (fun _ _ _ => False) hr e0 hb hv h) fun r s' hh => ?_
  cases r with
  | ok x => cases x <;> exact hh
  | error e =>
    obtain ⟨a, B, H', cls, d, h1, h2, h3, h4, h5, h6, h7, h8⟩ := hh
    exact h8.elim
theorem law_fd {P : Program} {w : World} {K : PySem.W.Frag} {mg : Str → Option Value} {base : Heap} {k : Nat} {fa : Addr} {fd : FuncData} {ps : List Str} {x q : Str} {params : Arguments} {body : List Stmt} {scope : Scope} {fn : Fn} (kn : Kn P w K mg base x k ps fn) (F : FunD K x q params body scope [] [] (He.ga K x) fd)
    (hm : mg x = some (.ref fa)) (hg : mg x = some (.ref (He.ga K x))) : FnOk P w K mg base (fun _ _ _ _ _ _ => False) k fa fd ps (fun vs H Q _ => spF K ps.length fn vs H Q fun _ _ _ => False) := by
  obtain ⟨f, fd', F', hm', _, _, oc', od', osl', lk'⟩ := kn
  obtain ⟨oc, od, osl, lk⟩ := FunD.look F
  have e : fa = f := by
    have z := hm.symm.trans hm'
    cases z; rfl
  have e2 : fa = He.ga K x := by
    have z := hm.symm.trans hg
    cases z; rfl
  subst e
  rw [e2, lk] at lk'
  cases lk'
  exact law_cx F'
theorem law_sp {K : PySem.W.Frag} {fn : Fn} {H : Hp} {a : Addr} {ns : List Int} (hS : SqL K H a (ns.map V.int)) (hf : ∃ st, fn [.kl (ns.map D.int)] [] = .ok (.bl true) st) : spF K 1 fn [.ref a] H (fun v _ => v = .bl true) fun _ _ _ => False := by
  obtain ⟨st, hf⟩ := hf
  refine ⟨⟨H, []⟩, [.kl (ns.map D.int)], [], rfl, ⟨fun _ _ h => h, ⟨rfl, (fun n b o h => by simp at h), (fun b h => by cases h), List.nodup_nil⟩⟩, .cons (.kl hS (ints_rep ns)) .nil, ?_⟩
  rw [hf]
  intro G' v H' _ _ p
  cases p
  rfl
end DL

namespace DL
open PySem PySem.Spec L2
/-! ### a def that calls itself: by fuel -/
def fStuck : Fn := fun _ _ => .stuck
theorem kn_stuck {P : Program} {w : World} {K : PySem.W.Frag} {mg : Str → Option Value} {base : Heap} {x : Str} {st : Stmt} {ps : List Str} {k : Nat} (F : FnW K x st) (hm : mg x = some (.ref (He.ga K x)))
    (hbn : ∀ (kV doc pm : Value) (an : Option Addr) (cdv ct : Value) (us : List Value), us.length = ps.length → bindArgs (PySem.W.fnOf x x (defArgs st) (defBody st) (defScope st) .none kV doc pm an cdv ct) ⟨us, []⟩ = pure (ps.zip us)) : Kn P w K mg base x k ps fStuck := by
  obtain ⟨fd, F⟩ := F
  refine ⟨He.ga K x, fd, ⟨fun vs H Q E h => ?_, fun A outer s H args us vs Q E hr e0 hb hv h => ?_⟩, hm, F.kp, F.bindsN hbn, FunD.look F⟩
  · obtain ⟨G, ds, st, hl, _⟩ := h
    exact hl
  · obtain ⟨G, ds, st, hl, _, _, h⟩ := h
    exact h.elim
/-! ### the truth of a slot that is only looked at -/
theorem tru_al {K : PySem.W.Frag} {pn : List (Addr × Obj)} {w : Wd} {x : V} {d : D} {b : Bool} (r : Rel K pn w) (p : AL K w x d) (h : tru d = some b) : TruV K x w.H b := by
  rcases p with p | ⟨a, vs, ds, rfl, rfl, h1, h2⟩
  · exact tru_of r p h
  · cases h
    exact .inl ⟨_, SqL.of h1, by rw [h2.empty]⟩
section
variable {X : Cx} {W : WX} {pos : Pos}
theorem jt_truthV (i : Nat) {x : Str} (hN : X.N[i]? = some x := by rfl) (hv : Vis X.env.scope x := by first | exact Or.inl rfl | exact Or.inr (Or.inl rfl) | exact Or.inr (Or.inr rfl)) (hd : (x == ("__debug__" : Str)) = false := by decide) (hcd : (x == ("__classdict__" : Str)) = false := by decide)
    (he : ∀ whole, isTrue (.Name x pos) X.env whole = (do let v ← whole; standAt (Expr.Name x pos).pos; holding [v] (truthy v)) := by intro _; rfl) : JT X W (.Name x pos) (mTru (mLook i)) := by
  refine PT.imp (pt_truth (jb_var (W := W) i hN hv hd hcd) he) fun σ H Q h => ?_
  obtain ⟨w, rfl, rfl, r, h⟩ := h
  refine run r h fun d s' G' v H' g r' p h' => ?_
  obtain ⟨k, e, q⟩ := optB_fin h' r'
  exact ⟨k, tru_al r' p e, q⟩
end
/-! ### x in xs, x not in xs for plain data -/
def rInP (K : PySem.W.Frag) (neg : Bool) : R2 := fun x y H Q => ∃ p ps, Dp K H x p ∧ (Dp K H y (.list ps) ∨ Dp K H y (.tuple ps)) ∧ p.plain = true ∧ PyData.plainAll ps = true ∧ p.depth ≤ 50 ∧ PyData.depthAll ps ≤ 50 ∧ Q (.bl (if neg then !(ps.any fun q => PyData.eqv q p) else ps.any fun q => PyData.eqv q p)) H
theorem op_inP {X : Cx} (hu : X.A.units + 64 < cLine) : OpR X (compareOp .In) (rInP X.K false) := by
  intro pins s σ H x y v u Q I rx ry h
  obtain ⟨p, ps, h1, h2, h3, h4, h5, h6, q⟩ := h
  obtain ⟨as, r1⟩ := Dp.reads I p x v h1 rx
  rcases h2 with h2 | h2
  · obtain ⟨bs, r2⟩ := Dp.reads I _ y u h2 ry
    exact SeqAt.in_list_data r2 r1 h4 h3 (by omega) ⟨.bl _, H, I, rfl, q⟩
  · obtain ⟨bs, r2⟩ := Dp.reads I _ y u h2 ry
    exact SeqAt.in_tuple_data r2 r1 h4 h3 (by omega) ⟨.bl _, H, I, rfl, q⟩
theorem op_ninP {X : Cx} (hu : X.A.units + 64 < cLine) : OpR X (compareOp .NotIn) (rInP X.K true) := by
  intro pins s σ H x y v u Q I rx ry h
  obtain ⟨p, ps, h1, h2, h3, h4, h5, h6, q⟩ := h
  obtain ⟨as, r1⟩ := Dp.reads I p x v h1 rx
  rcases h2 with h2 | h2
  · obtain ⟨bs, r2⟩ := Dp.reads I _ y u h2 ry
    exact SeqAt.notIn_list_data r2 r1 h4 h3 (by omega) ⟨.bl _, H, I, rfl, q⟩
  · obtain ⟨bs, r2⟩ := Dp.reads I _ y u h2 ry
    exact SeqAt.notIn_tuple_data r2 r1 h4 h3 (by omega) ⟨.bl _, H, I, rfl, q⟩
def seqD : D → Option (List D)
  | .tup ds => some ds
  | .lst ds => some ds
  | _ => none
def inQ (d : D) (ds : List D) : Bool := ds.any fun e => deq 50 e d == some true
def fInQ (neg : Bool) (d c : D) : Option D := match seqD c with
  | some ds => if (pd 50 d).isSome = true ∧ (pds (pd 50) ds).isSome = true then some (.bl (if neg then !inQ d ds else inQ d ds)) else none
  | none => none
theorem inQ_pd {d : D} {p : PyData} (hp : pd 50 d = some p) : ∀ {ds : List D} {ps : List PyData}, pds (pd 50) ds = some ps → inQ d ds = ps.any fun q => PyData.eqv q p
  | [], _, h => by cases h; rfl
  | e :: es, _, h => by
    obtain ⟨q, qs, h1, h2, rfl⟩ := pds_cons h
    have ih := inQ_pd hp h2
    unfold inQ at ih ⊢
    rw [List.any_cons, List.any_cons, ih, deq_pd 50 e d q p h1 hp]
    cases PyData.eqv q p <;> rfl
theorem inP_al {K : PySem.W.Frag} {pn : List (Addr × Obj)} {w : Wd} {neg : Bool} {x y : V} {d c z : D} {Q : VK} (r : Rel K pn w) (p1 : Rep K w.G x d) (p2 : AL K w y c) (hz : fInQ neg d c = some z) (k : ∀ v, Rep K w.G v z → Q v w.H) : rInP K neg x y w.H Q := by
  unfold fInQ at hz
  cases hs : seqD c with
  | none => rw [hs] at hz; cases hz
  | some ds =>
    simp only [hs] at hz
    split at hz
    · rename_i hh
      obtain ⟨p, hp⟩ := Option.isSome_iff_exists.mp hh.1
      obtain ⟨ps, hps⟩ := Option.isSome_iff_exists.mp hh.2
      cases hz
      obtain ⟨a1, a2⟩ := pd_ok 50 d p hp
      obtain ⟨b1, b2⟩ := pd_all (pd_ok 50) hps
      have hc : Dp K w.H y (.list ps) ∨ Dp K w.H y (.tuple ps) := by
        rcases p2 with p2 | ⟨a, vs, es, rfl, rfl, g1, g2⟩
        · cases p2 with
          | tup hs2 rs => cases hs; exact .inr (.tup (tqT r.ex hs2) (pds_dp (pd_dp r 50) hps rs))
          | lst hs2 rs => cases hs; exact .inl (.lst (SqL.of (r.ex _ _ hs2)) (pds_dp (pd_dp r 50) hps rs))
          | _ => cases hs
        · cases hs
          exact .inl (.lst (SqL.of g1) (pds_dp (pd_dp r 50) hps g2))
      refine ⟨p, ps, pd_dp r 50 x d p hp p1, hc, a1, b1, a2, b2, ?_⟩
      rw [← inQ_pd hp hps]
      exact k _ (.bl _)
    · cases hz
theorem k_inP {K : PySem.W.Frag} (neg : Bool) : R2Ok K (rInP K neg) (fInQ neg) := fun pn w x y d c z Q r p1 p2 hz k => inP_al r p1 (.inl p2) hz fun v p => k _ _ _ (.refl _) r p
/-- e in slot i, e not in slot i: the slot only looked at -/
def mInV (neg : Bool) (m : ME) (i : Nat) : ME := bnd m fun d s => match cur s i with
  | some c => lift (fInQ neg d c) s
  | none => .stuck
section
variable {X : Cx} {W : WX} {a : Expr} {ma : ME} {pos p : Pos}
theorem inV_run {neg : Bool} {i : Nat} {σ : L2.St} {H : Hp} {Q : VK} (h : tG X.K X.pn W (AR X.K) (mInV neg ma i) σ H Q) : tOp (rInP X.K neg) (tG X.K X.pn W (AR X.K) ma) (tVar i) σ H Q := by
  obtain ⟨w, rfl, rfl, r, h⟩ := h
  refine run r h fun d s' G' v H' g r' p h' => ?_
  cases hc : cur s' i with
  | none => simp only [hc] at h'; exact h'.elim
  | some c =>
    simp only [hc] at h'
    obtain ⟨v2, h2, h3⟩ := slot_val r' hc
    refine ⟨v2, h2, ?_⟩
    cases hz : fInQ neg d c with
    | none => rw [hz] at h'; exact h'.elim
    | some z =>
      rw [hz] at h'
      exact inP_al r' p h3 hz fun y q => h' _ _ _ (.refl _) r' q
theorem jt_inV (i : Nat) {x : Str} (hu : X.A.units + 64 < cLine) (ha : JE X W a ma) (hN : X.N[i]? = some x := by rfl) (hv : Vis X.env.scope x := by first | exact Or.inl rfl | exact Or.inr (Or.inl rfl) | exact Or.inr (Or.inr rfl)) (hd : (x == ("__debug__" : Str)) = false := by decide) (hcd : (x == ("__classdict__" : Str)) = false := by decide) (hm : behindInMarks .In (.Name x p) = false := by rfl) :
    JT X W (.Compare a [.In] [.Name x p] pos) (mBl (mInV false ma i)) := by
  refine PT.imp (pt_cmpR (op_inP hu) ha (pv i hN hv hd hcd) hm) fun σ H Q h => ?_
  obtain ⟨w, rfl, rfl, r, h⟩ := h
  refine inV_run ?_
  refine run r h fun d s' G' v H' g r' p h' => ?_
  obtain ⟨k, e, q⟩ := optB_fin h' r'
  unfold isBl at e
  split at e
  · cases e; cases p; exact ⟨_, rfl, q⟩
  · cases e
theorem jt_ninV (i : Nat) {x : Str} (hu : X.A.units + 64 < cLine) (ha : JE X W a ma) (hN : X.N[i]? = some x := by rfl) (hv : Vis X.env.scope x := by first | exact Or.inl rfl | exact Or.inr (Or.inl rfl) | exact Or.inr (Or.inr rfl)) (hd : (x == ("__debug__" : Str)) = false := by decide) (hcd : (x == ("__classdict__" : Str)) = false := by decide) (hm : behindInMarks .NotIn (.Name x p) = false := by rfl) :
    JT X W (.Compare a [.NotIn] [.Name x p] pos) (mBl (mInV true ma i)) := by
  refine PT.imp (pt_cmpR (op_ninP hu) ha (pv i hN hv hd hcd) hm) fun σ H Q h => ?_
  obtain ⟨w, rfl, rfl, r, h⟩ := h
  refine inV_run ?_
  refine run r h fun d s' G' v H' g r' p h' => ?_
  obtain ⟨k, e, q⟩ := optB_fin h' r'
  unfold isBl at e
  split at e
  · cases e; cases p; exact ⟨_, rfl, q⟩
  · cases e
theorem je_inV (i : Nat) {x : Str} (hu : X.A.units + 64 < cLine) (ha : JE X W a ma) (hN : X.N[i]? = some x := by rfl) (hv : Vis X.env.scope x := by first | exact Or.inl rfl | exact Or.inr (Or.inl rfl) | exact Or.inr (Or.inr rfl)) (hd : (x == ("__debug__" : Str)) = false := by decide) (hcd : (x == ("__classdict__" : Str)) = false := by decide) (hm : behindInMarks .In (.Name x p) = false := by rfl) :
    JE X W (.Compare a [.In] [.Name x p] pos) (mInV false ma i) := PE.imp (pe_cmpR (op_inP hu) ha (pv i hN hv hd hcd) hm) fun _ _ _ h => inV_run h
end
end DL

namespace DL
open PySem PySem.Spec PyProof.Rows L2
/-! ### {t: v}, t a tuple of ints and texts -/
def tDisp1T (tk tv : TE) : TE := fun σ H Q => ∀ p, H p = none → tPairs [(tk, tv)] σ (upd H p (.dT [])) fun ps H2 => H2 p = some (.dT []) ∧ ∃ (b : Addr) (k : List Key) (v : V), ps = [(.ref b, v)] ∧ H2 b = some (.tup (k.map kV)) ∧ Q (.ref p) (upd H2 p (.dT [(k, v)]))
theorem pe_disp1T {X : Cx} {ke ve : Expr} {tk tv : TE} {pos : Pos} (hu : X.A.units < cLine) (hk : PE X ke tk) (hv : PE X ve tv) : PE X (.Dict [some ke] [ve] pos) (tDisp1T tk tv) := by
  refine ⟨fun pins s σ H Q I q => ?_⟩
  have hn := I.hok.fresh (Nat.le_refl s.heap.objs.size)
  have I1 := I.laid (a := s.heap.objs.size) (o := .dT []) (h' := s.heap.push { cls := .type "dict", data := .dict #[] }) (t' := s.toks) (fun _ _ z => Heap.get?_push_of_some _ z) (Nat.le_refl _) (dt_empty s.heap I.big)
  rw [arm_eval_Dict, zip_pairTrees [some ke] [ve] X.env pos rfl rfl, dictDisplay_pairs (pairTrees [some ke] [ve] X.env pos) (by intro z; cases z) (by show 1 < _; decide)]
  refine wpAny_bind (wpAny_standAt (wpAny_bind (wpAny_subDictH (knd := tupleKind (mixKind X.prog X.w)) (Q := fun d s' => wpAny (model X.prog X.w) X.A (pure (Value.ref d)) (EP X pins σ Q) X.xe s') hu (by show 1 ≤ 15; decide) ?_)))
  refine thn ((pps_cons hk hv pps_nil).run pins _ σ _ _ I1 (q _ hn)) fun ws s2 hh => ?_
  obtain ⟨ps, H2, I2, rel, e, b, k, v, ex, eb, q2⟩ := hh
  subst ex
  cases rel with
  | cons r0 rr =>
    cases rr
    rename_i w0
    obtain ⟨u1, u2⟩ := w0
    obtain ⟨ra, rb⟩ := r0
    cases (show u1 = Value.ref b from ra)
    obtain ⟨z, hd, xs, kt, dd⟩ := dt_of I2.hok e
    cases kt
    refine ⟨[(k, b, u2)], ⟨rfl, rfl, key_of I2.hok eb, trivial⟩, dd, fun h' tk2 dd' hs => wpAny_pure ?_⟩
    obtain ⟨q1, es, ep, hq, g2, g3, g4, _, g5⟩ := dd'
    refine ⟨.ref s.heap.objs.size, _, d_write (ob := .dT [(k, v)]) I2 (by rw [e]; exact True.intro) hs ⟨q1, hq⟩ ⟨by show 1 ≤ sizeLine; rw [sizeLine_eq]; decide, hd, [(k, b, u2)], .cons ⟨rfl, ?_, rb⟩ .nil, q1, es, ep, hq, g2, g3, g4, g5⟩, rfl, q2⟩
    rw [upd_ne (ne_of eb e (fun z => nomatch z))]
    exact eb
end DL

namespace DL
open PySem PySem.Spec L2
/-! ### keys that are tuples of ints and texts -/
def key1 : D → Option Key
  | .int i => some (.inl i)
  | .str x => some (.inr x)
  | _ => none
def keyL : List D → Option (List Key)
  | [] => some []
  | d :: ds => match key1 d, keyL ds with
    | some k, some ks => some (k :: ks)
    | _, _ => none
def keyD : D → Option (List Key)
  | .tup ds => keyL ds
  | _ => none
theorem keyL_v {K : PySem.W.Frag} {G : Gh} : ∀ {vs : List V} {ds : List D} {ks : List Key}, Reps K G vs ds → keyL ds = some ks → vs = ks.map kV
  | _, _, _, .nil, h => by cases h; rfl
  | _, _, ks, .cons (d := d) (ds := ds) p r, h => by
    unfold keyL at h
    cases h1 : key1 d with
    | none => rw [h1] at h; cases h
    | some k =>
      cases h2 : keyL ds with
      | none => rw [h1, h2] at h; cases h
      | some ks2 =>
        rw [h1, h2] at h
        cases h
        rw [keyL_v r h2]
        cases p <;> cases h1 <;> rfl
theorem key_v {K : PySem.W.Frag} {pn : List (Addr × Obj)} {w : Wd} {v : V} {d : D} {k : List Key} (r : Rel K pn w) (p : Rep K w.G v d) (h : keyD d = some k) : ∃ b, v = .ref b ∧ w.H b = some (.tup (k.map kV)) := by
  cases p with
  | tup hs rs =>
    have e := keyL_v rs h
    subst e
    exact ⟨_, rfl, r.ex _ _ hs⟩
  | _ => cases h
/-- d[t] = v -/
def mPutT (m mk mv : ME) : MS := bnd mv fun z => bnd m fun d => bnd mk fun t s => match d, keyD t with
  | .loc n, some k => (match s.st[n]? with
    | some (.dtt kvs) => if kvs.length < 1000 then .ok .nx { s with st := s.st.set n (.dtt (putD kvs k z)) } else .stuck
    | _ => .stuck)
  | _, _ => .stuck
section
variable {X : Cx} {W : WX} {o i v ke ve : Expr} {m mk mv : ME} {pos pos' : Pos}
theorem js_putT (hu : X.A.units + 1 < cLine) (ho : JE X W o m) (hi : JE X W i mk) (hv : JE X W v mv) (hs : swapsWith v (some (.Subscript o i pos')) pos.line X.env = pure false := by rfl) : JS X W (.Assign [.Subscript o i pos'] v pos) (mPutT m mk mv) := by
  refine PS.imp (ps_dput hu ho hi hv hs) fun D σ H h => ?_
  obtain ⟨w, rfl, rfl, r, h⟩ := h
  refine runS r h fun z s1 G1 y1 H1 g1 r1 p1 h1 => ?_
  refine runS r1 h1 fun d s2 G2 y2 H2 g2 r2 p2 h2 => ?_
  refine runS r2 h2 fun t s' G' y H' g r' p h' => ?_
  split at h'
  · rename_i n k hk
    split at h'
    · rename_i kvs hn
      split at h'
      · rename_i hl
        cases p2 with
        | loc ha0 =>
          have ha := g.d _ _ ha0
          obtain ⟨vs, e1, e2⟩ := r'.st.at_ n _ _ ha hn
          obtain ⟨b, rfl, hb⟩ := key_v r' p hk
          refine ⟨_, _, rfl, DPut.t e1 hb (by rw [kv_len e2, sizeLine_eq]; omega), ?_⟩
          exact h' _ _ _ (.refl _) (r'.cell ha fun H2 hH => ⟨_, hH, kv_put e2 (p1.mono (g2.trans g))⟩)
      · exact h'.elim
    · exact h'.elim
  · exact h'.elim
end
end DL

namespace DL
open PySem PySem.Spec L2
/-- {t: v}, a new cell -/
def mDict1T (mk mv : ME) : ME := bnd mk fun t => bnd mv fun z s => match keyD t with
  | some k => .ok (.loc s.st.length) { s with st := s.st ++ [.dtt [(k, z)]] }
  | none => .stuck
/-- a mirror's end, with a thing more under way -/
theorem okG.more {α β : Type} {K : PySem.W.Frag} {pn : List (Addr × Obj)} {W : WX} {A : Wd → β → α → Prop} {w : Wd} {Q : β → Hp → Prop} {x : Exc} {s' : S} {q : Addr × HO} {H2 : Hp} (h : okG K pn W A w Q (.exc x s')) {A2 : Wd → β → α → Prop} {Q2 : β → Hp → Prop} : okG K pn W A2 { w with H := H2, pr := q :: w.pr } Q2 (.exc x s') := fun G' c d H' g r' hx => h G' c d H' g ⟨r'.ex, r'.le, r'.st, r'.sl, fun z hz => r'.pr z (List.mem_cons_of_mem _ hz)⟩ hx
section
variable {X : Cx} {W : WX} {ke ve : Expr} {mk mv : ME} {pos : Pos}
theorem je_dict1T (hu : X.A.units < cLine) (hk : JE X W ke mk) (hv : JE X W ve mv) : JE X W (.Dict [some ke] [ve] pos) (mDict1T mk mv) := by
  refine PE.imp (pe_disp1T hu hk hv) fun σ H Q h => ?_
  obtain ⟨w, rfl, rfl, r, h⟩ := h
  intro p hp
  have np := r.noP hp
  have r1 := r.prPush (o := .dT []) hp
  refine ⟨{ w with H := upd w.H p (.dT []), pr := (p, .dT []) :: w.pr }, rfl, rfl, r1, ?_⟩
  have h : okG X.K X.pn W (AR X.K) w Q (bnd mk (fun t => bnd mv fun z s => match keyD t with
    | some k => .ok (.loc s.st.length) { s with st := s.st ++ [.dtt [(k, z)]] }
    | none => .stuck) w.s) := h
  unfold bnd at h
  show okG X.K X.pn W _ _ _ (mk w.s)
  cases hm : mk w.s with
  | stuck => rw [hm] at h; exact h
  | exc y s2 => rw [hm] at h; exact okG.more h
  | ok t s2 =>
    rw [hm] at h
    dsimp only at h
    intro G1 x H1 g1 r2 p1
    refine ⟨{ w with G := G1, H := H1, s := s2, pr := (p, .dT []) :: w.pr }, rfl, rfl, r2, ?_⟩
    show okG X.K X.pn W _ _ _ (mv s2)
    cases hm2 : mv s2 with
    | stuck => rw [hm2] at h; exact h
    | exc y s3 =>
      rw [hm2] at h
      intro G' c d H' g r' hx
      exact h G' c d H' (g1.trans g) ⟨r'.ex, r'.le, r'.st, r'.sl, fun z hz => r'.pr z (List.mem_cons_of_mem _ hz)⟩ hx
    | ok z s3 =>
      rw [hm2] at h
      dsimp only at h
      intro G2 v H2 g2 r3 p2
      cases hk2 : keyD t with
      | none => rw [hk2] at h; exact h.elim
      | some k =>
        rw [hk2] at h
        obtain ⟨q1, q2, q3, q4, q5⟩ := r3.pr (p, .dT []) List.mem_cons_self
        obtain ⟨b, rfl, hb⟩ := key_v r3 (p1.mono g2) hk2
        refine ⟨q1, b, k, v, rfl, hb, ?_⟩
        obtain ⟨g3, r4, q6⟩ := Rel.mkCell (w := { w with G := G2, H := H2, s := s3, pr := (p, .dT []) :: w.pr }) (o := .dtt [(k, z)]) (u := .dT [(k, v)]) (l := w.pr) r3 q2 q3.1 q4 q5 (fun q hq => ⟨List.mem_cons_of_mem _ hq, np q hq⟩) (fun G3 H3 g3 hH => ⟨_, hH, .cons ⟨rfl, p2.mono g3⟩ .nil⟩)
        exact h _ _ _ ((g1.trans g2).trans g3) r4 q6
end
end DL

namespace DL
open PySem PySem.Spec L2
/-! ### t in d, t not in d: d a cell whose keys are tuples -/
theorem kv_has {κ : Type} [DecidableEq κ] {K : PySem.W.Frag} {G : Gh} {k : κ} : ∀ {vs : List (κ × V)} {kvs : List (κ × D)}, KvRel K G vs kvs → (valV vs k).isSome = (valD kvs k).isSome
  | _, _, .nil => rfl
  | _, _, .cons (a := p) (b := q) e r => by
    unfold valD valV
    rw [List.find?_cons, List.find?_cons, e.1]
    by_cases c : q.1 = k
    · simp only [c, decide_true]; rfl
    · simp only [c, decide_false]
      exact kv_has r
def hasT (neg : Bool) (t d : D) (s : S) : Option Bool := match d, keyD t with
  | .loc n, some k => (match s.st[n]? with
    | some (.dtt kvs) => some (if neg then !(valD kvs k).isSome else (valD kvs k).isSome)
    | _ => none)
  | _, _ => none
def mHas (neg : Bool) (ma mb : ME) : ME := bnd ma fun t => bnd mb fun d s => match hasT neg t d s with
  | some b => .ok (.bl b) s
  | none => .stuck
theorem has_run {K : PySem.W.Frag} {pn : List (Addr × Obj)} {w : Wd} {neg b : Bool} {y x : V} {t d : D} (r : Rel K pn w) (p1 : Rep K w.G y t) (p2 : Rep K w.G x d) (h : hasT neg t d w.s = some b) : ∃ a o, x = .ref a ∧ DGet w.H a y o ∧ b = if neg then !o.isSome else o.isSome := by
  unfold hasT at h
  split at h
  · rename_i n k hk
    split at h
    · rename_i kvs hn
      cases h
      cases p2 with
      | loc ha =>
        obtain ⟨vs, e1, e2⟩ := r.st.at_ n _ _ ha hn
        obtain ⟨c, rfl, hc⟩ := key_v r p1 hk
        exact ⟨_, _, rfl, DGet.t e1 hc, by rw [kv_has e2]⟩
    · cases h
  · cases h
section
variable {X : Cx} {W : WX} {a b : Expr} {ma mb : ME} {pos : Pos}
theorem hasI_run {σ : L2.St} {H : Hp} {Q : VK} (h : tG X.K X.pn W (AR X.K) (mHas false ma mb) σ H Q) : tDIn (tG X.K X.pn W (AR X.K) ma) (tG X.K X.pn W (AR X.K) mb) σ H Q := by
  obtain ⟨w, rfl, rfl, r, h⟩ := h
  refine run r h fun t s1 G1 y H1 g1 r1 p1 h1 => ?_
  refine run r1 h1 fun d s2 G2 x H2 g2 r2 p2 h2 => ?_
  cases hh : hasT false t d s2 with
  | none => rw [hh] at h2; exact h2.elim
  | some k =>
    rw [hh] at h2
    obtain ⟨c, o, e1, e2, e3⟩ := has_run r2 (p1.mono g2) p2 hh
    exact ⟨c, o, e1, e2, by rw [show o.isSome = k from e3.symm]; exact h2 _ _ _ (.refl _) r2 (.bl _)⟩
theorem hasN_run {σ : L2.St} {H : Hp} {Q : VK} (h : tG X.K X.pn W (AR X.K) (mHas true ma mb) σ H Q) : tDNotIn (tG X.K X.pn W (AR X.K) ma) (tG X.K X.pn W (AR X.K) mb) σ H Q := by
  obtain ⟨w, rfl, rfl, r, h⟩ := h
  refine run r h fun t s1 G1 y H1 g1 r1 p1 h1 => ?_
  refine run r1 h1 fun d s2 G2 x H2 g2 r2 p2 h2 => ?_
  cases hh : hasT true t d s2 with
  | none => rw [hh] at h2; exact h2.elim
  | some k =>
    rw [hh] at h2
    obtain ⟨c, o, e1, e2, e3⟩ := has_run r2 (p1.mono g2) p2 hh
    exact ⟨c, o, e1, e2, by rw [show (!o.isSome) = k from e3.symm]; exact h2 _ _ _ (.refl _) r2 (.bl _)⟩
theorem je_hasI (hu : X.A.units + 1 < cLine) (ha : JE X W a ma) (hb : JE X W b mb) (hm : behindInMarks .In b = false := by rfl) : JE X W (.Compare a [.In] [b] pos) (mHas false ma mb) := PE.imp (pe_cmp (pc_din hu ha hb) hm) fun _ _ _ h => hasI_run h
theorem je_hasN (hu : X.A.units + 1 < cLine) (ha : JE X W a ma) (hb : JE X W b mb) (hm : behindInMarks .NotIn b = false := by rfl) : JE X W (.Compare a [.NotIn] [b] pos) (mHas true ma mb) := PE.imp (pe_cmp (pc_dnotin hu ha hb) hm) fun _ _ _ h => hasN_run h
theorem jt_hasI (hu : X.A.units + 1 < cLine) (ha : JE X W a ma) (hb : JE X W b mb) (hm : behindInMarks .In b = false := by rfl) : JT X W (.Compare a [.In] [b] pos) (mBl (mHas false ma mb)) := by
  refine PT.imp (pt_cmp (pc_din hu ha hb) hm) fun σ H Q h => ?_
  obtain ⟨w, rfl, rfl, r, h⟩ := h
  refine hasI_run ?_
  refine run r h fun d s' G' v H' g r' p h' => ?_
  obtain ⟨k, e, q⟩ := optB_fin h' r'
  unfold isBl at e
  split at e
  · cases e; cases p; exact ⟨_, rfl, q⟩
  · cases e
theorem jt_hasN (hu : X.A.units + 1 < cLine) (ha : JE X W a ma) (hb : JE X W b mb) (hm : behindInMarks .NotIn b = false := by rfl) : JT X W (.Compare a [.NotIn] [b] pos) (mBl (mHas true ma mb)) := by
  refine PT.imp (pt_cmp (pc_dnotin hu ha hb) hm) fun σ H Q h => ?_
  obtain ⟨w, rfl, rfl, r, h⟩ := h
  refine hasN_run ?_
  refine run r h fun d s' G' v H' g r' p h' => ?_
  obtain ⟨k, e, q⟩ := optB_fin h' r'
  unfold isBl at e
  split at e
  · cases e; cases p; exact ⟨_, rfl, q⟩
  · cases e
end
end DL

namespace DL
open PySem PySem.Spec L2
/-! ### a tracked tuple may be frozen late -/
theorem Rel.lateT {K : PySem.W.Frag} {pn : List (Addr × Obj)} {w : Wd} (r : Rel K pn w) {b : Addr} {vs : List V} (hb : w.H b = some (.tup vs)) : ∃ G', w.G.le G' ∧ Rel K pn { w with G := G' } ∧ G'.F b = some (.tup vs) := by
  cases hF : w.G.F b with
  | some o =>
    have e := r.ex b o hF
    rw [hb] at e
    cases e
    exact ⟨w.G, .refl _, r, hF⟩
  | none =>
    have na : b ∉ w.G.ad := fun m => by
      obtain ⟨n, hn⟩ := List.mem_iff_getElem?.mp m
      obtain ⟨hl, _⟩ := List.getElem?_eq_some_iff.mp hn
      have hl2 : n < w.s.st.length := by rw [← r.st.len]; exact hl
      have ob := r.st.at_ n b w.s.st[n] hn (List.getElem?_eq_getElem hl2)
      cases hst : w.s.st[n] with
      | dct kvs => rw [hst] at ob; obtain ⟨_, q, _⟩ := ob; rw [hb] at q; cases q
      | dtt kvs => rw [hst] at ob; obtain ⟨_, q, _⟩ := ob; rw [hb] at q; cases q
      | ins c fs => rw [hst] at ob; obtain ⟨_, _, q, _⟩ := ob; rw [hb] at q; cases q
    have na0 : b ∉ w.G0.ad := fun m => by
      obtain ⟨n, hn⟩ := List.mem_iff_getElem?.mp m
      exact na (List.mem_of_getElem? (r.le.g.d n b hn))
    have g := gle_upd (o := .tup vs) hF
    refine ⟨_, g, ⟨fun a u h => ?_, ⟨r.le.g.trans g, r.le.nw, fun a u h => ?_, r.le.kp, r.le.dm⟩, ⟨r.st.len, fun n a u h1 h2 => (r.st.at_ n a u h1 h2).mono g fun _ q => q, fun a h => ?_, r.st.nd⟩, ⟨r.sl.len, fun i d h => ?_, fun i ds h => ?_, r.sl.dis, fun i x h => ?_⟩, fun q hq => ?_⟩, upd_same⟩
    · rcases upd_get h with ⟨e, z⟩ | ⟨e, z⟩
      · rw [e, z]; exact hb
      · exact r.ex a u z
    · rcases upd_get h with ⟨e, z⟩ | ⟨e, z⟩
      · subst e; subst z
        refine .inr (.inr ⟨vs, rfl, na0, fun o' ho => ?_⟩)
        have := r.le.kp _ o' ho na0
        rw [hb] at this
        exact (Option.some.inj this).symm
      · exact r.le.fz a u z
    · exact (upd_ne (show a ≠ b from fun e => na (e ▸ h))).trans (r.st.nof a h)
    · obtain ⟨v, h1, h2⟩ := r.sl.imm i d h
      exact ⟨v, h1, h2.mono g⟩
    · obtain ⟨a, us, h1, h2, h3, h4, h5⟩ := r.sl.own i ds h
      refine ⟨a, us, h1, h2, h3.mono g, ?_, h5⟩
      exact (upd_ne (show a ≠ b from fun e => by rw [e, hb] at h2; cases h2)).trans h4
    · obtain ⟨a, oe, tl, cls, d, h1, h2, h3, h4⟩ := r.sl.xn i x h
      exact ⟨a, oe, tl, cls, d, h1, h2, h3, h4.mono g⟩
    · obtain ⟨p1, p2, p3, p4⟩ := r.pr q hq
      refine ⟨p1, (upd_ne (show q.1 ≠ b from fun e => ?_)).trans p2, p3, p4⟩
      rw [e, hb] at p1
      have e2 := p3.2
      rw [← Option.some.inj p1] at e2
      cases e2
def kD : Key → D
  | .inl i => .int i
  | .inr x => .str x
theorem kD_reps {K : PySem.W.Frag} {G : Gh} : ∀ k : List Key, Reps K G (k.map kV) (k.map kD)
  | [] => .nil
  | .inl i :: r => .cons (.int i) (kD_reps r)
  | .inr x :: r => .cons (.str x) (kD_reps r)
end DL

namespace DL
open PySem PySem.Spec PyProof.Rows L2
/-! ### the truth of a dict whose keys are tuples -/
theorem tru_dictH {prog : Program} {w : World} {κ : Type} [DecidableEq κ] {knd : HeapKind prog w κ} {A : Around} {E : Value → Shared → Prop} {s : Shared} {a : Addr} {es : List (κ × Addr × Value)} {Q : Bool → Shared → Prop} (ha : (a == sysModules) = false) (hm : s.heap.DictOfH knd a es) (hf : (es.length : Int) < 2 ^ 63)
    (h : Q (!es.isEmpty) { s with toks := s.toks + 1 + 1 }) : wpAny (model prog w) A (truthy (.ref a)) Q E s := by
  have ne : ((es.length : Int) != 0) = !es.isEmpty := by cases es <;> simp <;> omega
  have lenRun : wpAny (model prog w) A (runValue (.builtin "len" ⟨[.ref a], []⟩)) (fun u z => u = .int es.length (s.toks + 1) ∧ Q (!es.isEmpty) z) E s := by
    refine wpAny_runValue (codeAny_builtin entry_len ?_)
    rw [Around.under_plainId plain_len _]
    refine wpAny_mono (wpAny_len_body_dictH (Q := fun u z => u = .int es.length (s.toks + 1) ∧ Q (!es.isEmpty) z) ha hm hf ⟨rfl, h⟩) (fun fin z hz => ?_) fun _ _ e => e
    obtain ⟨u, rfl, hq⟩ := hz
    exact hq
  unfold truthy
  first
    | (refine wpAny_bind (wpAny_callSpecial?_none (name := Str.ofString "__bool__") hm.typeIs noBool_dict ?_))
    | (refine wpAny_bind (wpAny_pure (wpAny_bind (wpAny_callSpecial?_none (name := Str.ofString "__bool__") hm.typeIs noBool_dict ?_))))
  first
    | (refine wpAny_bind (wpAny_specialOf (name := Str.ofString "__len__") hm.typeIs F.slot_dict_len.lookup ?_))
    | (refine wpAny_bind (wpAny_pure (wpAny_bind (wpAny_specialOf (name := Str.ofString "__len__") hm.typeIs F.slot_dict_len.lookup ?_))))
  first
    | exact wpAny_bind (wpAny_mono lenRun (fun u z hz => by obtain ⟨rfl, hq⟩ := hz; exact wpAny_pure (ne ▸ hq)) (fun _ _ e => e))
    | exact wpAny_bind (wpAny_pure (wpAny_bind (wpAny_mono lenRun (fun u z hz => by obtain ⟨rfl, hq⟩ := hz; exact wpAny_pure (ne ▸ hq)) (fun _ _ e => e))))
/-- truth, also of such a dict -/
def TruT (K : PySem.W.Frag) (x : V) (H : Hp) (k : Bool) : Prop := TruV K x H k ∨ ∃ p kvs, x = .ref p ∧ H p = some (.dT kvs) ∧ k = !kvs.isEmpty
theorem truT_ok {X : Cx} : TruR X (fun x H Q => ∃ k, TruT X.K x H k ∧ Q k H) := by
  intro pins s σ H x v Q I rx h
  obtain ⟨k, e, q⟩ := h
  rcases e with e | ⟨p, kvs, rfl, hp, rfl⟩
  · exact tru_ok pins s σ H x v Q I rx ⟨k, e, q⟩
  · cases rx
    obtain ⟨z, hd, xs, rel, dd⟩ := dt_of I.hok hp
    have hl : kvs.length = xs.length := Paired.length rel
    have hs : sizeLine = 16777216 := sizeLine_eq
    have he : (!xs.isEmpty) = !kvs.isEmpty := by cases kvs <;> cases xs <;> first | rfl | simp at hl
    exact tru_dictH hd dd (by omega) ⟨H, I.tok _, by rw [he]; exact q⟩
section
variable {X : Cx} {W : WX} {pos : Pos}
theorem pt_truthT {a : Expr} {ta : TE} (ha : PE X a ta) (he : ∀ whole, isTrue a X.env whole = (do let v ← whole; standAt a.pos; holding [v] (truthy v))) : PT X a (fun σ H Q => ta σ H fun x H' => ∃ k, TruT X.K x H' k ∧ Q k H') := by
  refine ⟨fun pins s σ H Q I h => isTrue_plain (thn (ha.run pins s σ H _ I h) fun v s1 hh => ?_) (he _)⟩
  obtain ⟨x, H1, I1, r1, q1⟩ := hh
  exact truT_ok pins s1 σ H1 x v Q I1 r1 q1
def truS (s : S) : D → Option Bool
  | .loc n => (match s.st[n]? with
    | some (.dtt kvs) => some (!kvs.isEmpty)
    | some (.dct kvs) => some (!kvs.isEmpty)
    | _ => none)
  | d => tru d
def mTruN (i : Nat) : MT := bnd (mLook i) fun d s => optB (truS s d) s
theorem kv_empty {κ : Type} {K : PySem.W.Frag} {G : Gh} {vs : List (κ × V)} {kvs : List (κ × D)} (h : KvRel K G vs kvs) : (!kvs.isEmpty) = !vs.isEmpty := by
  cases h <;> rfl
theorem truS_al {K : PySem.W.Frag} {pn : List (Addr × Obj)} {w : Wd} {x : V} {d : D} {b : Bool} (r : Rel K pn w) (p : AL K w x d) (h : truS w.s d = some b) : TruT K x w.H b := by
  unfold truS at h
  split at h
  · rename_i n
    have p := p.rep (fun _ => by simp)
    cases p with
    | loc ha =>
      split at h
      · rename_i kvs hn
        cases h
        obtain ⟨vs, e1, e2⟩ := r.st.at_ n _ _ ha hn
        exact .inr ⟨_, vs, rfl, e1, kv_empty e2⟩
      · rename_i kvs hn
        cases h
        obtain ⟨vs, e1, e2⟩ := r.st.at_ n _ _ ha hn
        exact .inl (.inr (.inr ⟨vs, e1, kv_empty e2⟩))
      · cases h
  · exact .inl (tru_al r p h)
/-- the truth of a name -/
theorem jt_truthN (i : Nat) {x : Str} (hN : X.N[i]? = some x := by rfl) (hv : Vis X.env.scope x := by first | exact Or.inl rfl | exact Or.inr (Or.inl rfl) | exact Or.inr (Or.inr rfl)) (hd : (x == ("__debug__" : Str)) = false := by decide) (hcd : (x == ("__classdict__" : Str)) = false := by decide)
    (he : ∀ whole, isTrue (.Name x pos) X.env whole = (do let v ← whole; standAt (Expr.Name x pos).pos; holding [v] (truthy v)) := by intro _; rfl) : JT X W (.Name x pos) (mTruN i) := by
  refine PT.imp (pt_truthT (jb_var (W := W) i hN hv hd hcd) he) fun σ H Q h => ?_
  obtain ⟨w, rfl, rfl, r, h⟩ := h
  refine run r h fun d s' G' v H' g r' p h' => ?_
  obtain ⟨k, e, q⟩ := optB_fin h' r'
  exact ⟨k, truS_al r' p e, q⟩
/-! ### list(d) -/
theorem Rel.lates {K : PySem.W.Frag} {pn : List (Addr × Obj)} : ∀ {kvs : List (List Key × V)} {bs : List Addr} {w : Wd}, Rel K pn w → IsKeys w.H kvs bs → ∃ G', w.G.le G' ∧ Rel K pn { w with G := G' } ∧ Reps K G' (bs.map V.ref) (kvs.map fun p => .tup (p.1.map kD))
  | _, _, w, r, .nil => ⟨w.G, .refl _, r, .nil⟩
  | _, _, w, r, .cons h t => by
    obtain ⟨G1, g1, r1, f1⟩ := r.lateT h
    obtain ⟨G2, g2, r2, p2⟩ := Rel.lates (w := { w with G := G1 }) r1 t
    exact ⟨G2, g1.trans g2, r2, .cons (.tup (g2.f _ _ f1) (kD_reps _)) p2⟩
def listS (s : S) : D → Option (List D)
  | .loc n => (match s.st[n]? with
    | some (.dtt kvs) => some (kvs.map fun p => .tup (p.1.map kD))
    | _ => none)
  | d => itD d
def mListS (m : ME) : MA := bnd m fun d s => match listS s d with
  | some z => .ok z s
  | none => .stuck
theorem kv_keys {κ : Type} {K : PySem.W.Frag} {G : Gh} {f : κ → D} : ∀ {vs : List (κ × V)} {kvs : List (κ × D)}, KvRel K G vs kvs → vs.map (fun p => f p.1) = kvs.map fun p => f p.1
  | _, _, .nil => rfl
  | _, _, .cons h t => by rw [List.map_cons, List.map_cons, h.1, kv_keys t]
theorem jf_listS {x : Str} {e : Expr} {m : ME} {p : Pos} (hcalm : X.calm = true) (hg : Gl X x) (hm : X.mg x = none) (hv : bootBuiltins x = some (.type "list")) (h : JB X W e m) (hn : x ≠ "__name__" := by decide) (hdb : (x == ("__debug__" : Str)) = false := by decide)
    (hs : starEach [e] X.env = (false, eval e X.env) :: starEach [] X.env := by rfl) (h1 : starEach [e] X.env = (false, eval e X.env) :: starEach [] X.env := by rfl) (h2 : (backTo pos (starEach [] X.env)).any (·.1) = false := by rfl) :
    JF X W (.Call (.Name x p) [e] [] pos) (mListS m) := by
  refine PE.imp (pe_callTy ((call_list_of (X := X)).or (call_list_dT hcalm)) hg hm hv (pa_cons h pa_nil hs) hn hdb h1 h2) fun σ H Q h => ?_
  obtain ⟨w, rfl, rfl, r0, h⟩ := h
  refine run r0 h fun d s' G' v H' g r' p h' => ?_
  cases hz : listS s' d with
  | none => rw [hz] at h'; exact h'.elim
  | some z =>
    rw [hz] at h'
    unfold listS at hz
    split at hz
    · rename_i n
      split at hz
      · rename_i kvs hk
        cases hz
        have p := p.rep (fun _ => by simp)
        cases p with
        | loc ha =>
          obtain ⟨vs, e1, e2⟩ := r'.st.at_ n _ _ ha hk
          refine .inr ⟨_, vs, rfl, .inl e1, fun q bs hq hb => ?_⟩
          obtain ⟨G2, g2, r2, p2⟩ := r'.lates hb
          rw [kv_keys (f := fun k => D.tup (k.map kD)) e2] at p2
          exact h' G2 _ _ g2 (Rel.alloc (w := { w with G := G2, H := H', s := s' }) r2 hq) (AF.new (w := { w with G := G2, H := H', s := s' }) r2 hq p2)
      · cases hz
    · exact .inl (k_list X.pn _ v d z Q r' p hz fun G3 y H3 g3 r3 p3 => h' G3 y H3 g3 r3 p3)
end
/-! ### tuple * int -/
theorem tmul1 (l : Addr) (items : Array Value) (n : Nat) (dd : Option Addr) (sl : Array (Option Value)) (u : Tok) :
    Meets (Builtin.«tuple.__mul__» ⟨[.ref l, .int 1 u], []⟩) (fun _ R s => s.heap.get? l = some { cls := .type "tuple", dict := dd, data := .seq items n, slots := sl } ∧ R (.ok (.ret (Value.ref l))) s) :=
  .of_wp fun prog w A R s h => by
    obtain ⟨hp, g, d, tk, os⟩ := s
    obtain ⟨hl, h⟩ := h
    have f1 := AutoSeq1.idx_int
    have c1 : (items.isEmpty || (1 : Int) == 1) = true := by simp
    wp_walk using wpAny_loadPart' hl
    repeat (first
      | (refine wpAny_ite_true (decide_eq_true c1) ?_; wp_walk using wpAny_loadPart' hl)
      | (refine wpAny_ite_true ?_ ?_; · simp; wp_walk using wpAny_loadPart' hl))
    all_goals exact ⟨_, rfl, h⟩
theorem tmul0 (l : Addr) (items : Array Value) (n : Nat) (dd : Option Addr) (sl : Array (Option Value)) (x : Int) (u : Tok) (c0 : (decide (x < -(2 ^ 63)) || decide (x ≥ 2 ^ 63)) = false) (c1 : (items.isEmpty || x == 1) = false) (c2 : (decide (x ≤ 0) || items.isEmpty) = true) :
    Meets (Builtin.«tuple.__mul__» ⟨[.ref l, .int x u], []⟩) (fun _ R s => s.heap.get? l = some { cls := .type "tuple", dict := dd, data := .seq items n, slots := sl } ∧
      R (.ok (.ret (Value.ref s.heap.objs.size))) { s with heap := s.heap.push { cls := Value.type "tuple", data := Data.seq #[] }, toks := s.toks }) :=
  .of_wp fun prog w A R s h => by
    obtain ⟨hp, g, d, tk, os⟩ := s
    obtain ⟨hl, h⟩ := h
    have f1 := AutoSeq1.idx_int
    wp_walk using wpAny_loadPart' hl
    repeat (first
      | (refine wpAny_ite_false (decide_eq_false (by rw [c0]; exact Bool.false_ne_true)) ?_; wp_walk using wpAny_loadPart' hl)
      | (refine wpAny_ite_false (decide_eq_false (by rw [c1]; exact Bool.false_ne_true)) ?_; wp_walk using wpAny_loadPart' hl)
      | (refine wpAny_ite_true (decide_eq_true c2) ?_; wp_walk using wpAny_loadPart' hl))
    all_goals exact ⟨_, rfl, h⟩
def rRep01 (K : PySem.W.Frag) : R2 := fun x y H Q => ∃ l k xs, x = .ref l ∧ y = .int k ∧ SqT K H l xs ∧ ((k = 1 ∧ Q (.ref l) H) ∨ (k = 0 ∧ xs ≠ [] ∧ ∀ p, H p = none → Q (.ref p) (upd H p (.tup []))))
theorem op_rep01 {X : Cx} : OpR X (binaryOp .Mult) (rRep01 X.K) := by
  intro pins s σ H x y v u Q I rx ry h
  obtain ⟨l, k, xs, rfl, rfl, hT, h⟩ := h
  cases rx
  obtain ⟨t, rfl⟩ := ry
  obtain ⟨its, r, ⟨⟨cls, dd, data, sl⟩, ho, hc, n, hd⟩, hs⟩ := I.tuple hT
  simp only at hc hd
  subst hc hd
  have hle : its.length = xs.length := r.length.symm
  rcases h with ⟨rfl, q⟩ | ⟨rfl, hne, q⟩
  · refine wpAny_binaryOp_repeat_ref (T := "tuple") (U := "int") (by decide) ⟨_, ho, rfl⟩ (fun s' => typeIs_int s' 1 t) noFill_tuple_mul F.fills_int_mul F.slot_int_rmul repeat_tuple F.slot_int_index.lookup
      (call_meets F.slot_int_rmul (typeIs_int s 1 t) F.entry_int_rmul (F.args_int_rmul_2 _ _) (int_rmul_tuple 1 t l its.toArray n dd sl)
        ⟨ho, rfl, ⟨_, ho, rfl⟩, call_meets F.slot_tuple_mul ⟨_, ho, rfl⟩ F.entry_tuple_mul (F.args_tuple_mul_2 _ _) (tmul1 l its.toArray n dd sl t) ⟨ho, ?_⟩⟩)
    exact ⟨.ref l, H, I, rfl, q⟩
  · have hn : its ≠ [] := fun e => hne (List.eq_nil_of_length_eq_zero (by rw [← hle, e]; rfl))
    have hi : its.toArray.isEmpty = false := by
      cases its with
      | nil => exact absurd rfl hn
      | cons a b => rfl
    refine wpAny_binaryOp_repeat_ref (T := "tuple") (U := "int") (by decide) ⟨_, ho, rfl⟩ (fun s' => typeIs_int s' 0 t) noFill_tuple_mul F.fills_int_mul F.slot_int_rmul repeat_tuple F.slot_int_index.lookup
      (call_meets F.slot_int_rmul (typeIs_int s 0 t) F.entry_int_rmul (F.args_int_rmul_2 _ _) (int_rmul_tuple 0 t l its.toArray n dd sl)
        ⟨ho, rfl, ⟨_, ho, rfl⟩, call_meets F.slot_tuple_mul ⟨_, ho, rfl⟩ F.entry_tuple_mul (F.args_tuple_mul_2 _ _) (tmul0 l its.toArray n dd sl 0 t (by decide) (by rw [hi]; decide) (by rw [hi]; decide)) ⟨ho, ?_⟩⟩)
    refine ⟨.ref s.heap.objs.size, _, I.laid (t' := s.toks) (o := .tup []) (fun b ob q => Heap.get?_push_of_some _ q) (Nat.le_refl _) ?_, rfl, q _ (I.hok.fresh (Nat.le_refl _))⟩
    exact ⟨by rw [sizeLine_eq]; decide, _, .nil, IsTup.new _ _⟩
/-- tuple * int, the tuple not empty -/
def fMulT : D → D → Option D
  | .tup xs, .int k => if xs ≠ [] ∧ 0 ≤ k ∧ k ≤ 1000 ∧ xs.length ≤ 1000 then some (.tup (List.replicate k.toNat xs).flatten) else none
  | _, _ => none
instance decNil (xs : List D) : Decidable (xs ≠ []) := match xs with
  | [] => .isFalse fun h => h rfl
  | _ :: _ => .isTrue nofun
def rMulT (K : PySem.W.Frag) : R2 := fun x y H Q => rRep01 K x y H Q ∨ rRepT K x y H Q
theorem op_mulT {X : Cx} : OpR X (binaryOp .Mult) (rMulT X.K) := op_rep01.or op_repT
theorem k_mulT {K : PySem.W.Frag} : R2Ok K (rMulT K) fMulT := by
  intro pn w x y d e z Q r p1 p2 hz k
  unfold fMulT at hz
  split at hz
  · split at hz
    · rename_i xs j hf
      obtain ⟨hne, h0, h1, hl⟩ := hf
      cases hz
      cases p2
      cases p1 with
      | tup hs rs =>
        have hT := tqT (K := K) r.ex hs
        have hv : ∀ {vs : List V}, Reps K w.G vs xs → vs ≠ [] := fun {vs} q e => by subst e; cases q; exact hne rfl
        by_cases c0 : j = 0
        · subst c0
          refine .inl ⟨_, _, _, rfl, rfl, hT, .inr ⟨rfl, hv rs, fun p hp => ?_⟩⟩
          exact k _ _ _ (gle_upd (r.noF hp)) (r.new hp) (.tup upd_same .nil)
        · by_cases c1 : j = 1
          · subst c1
            refine .inl ⟨_, _, _, rfl, rfl, hT, .inl ⟨rfl, ?_⟩⟩
            have e : (List.replicate (1 : Int).toNat xs).flatten = xs := by simp
            rw [e] at k
            exact k _ _ _ (.refl _) r (.tup hs rs)
          · refine .inr ⟨_, _, _, rfl, rfl, hT, hv rs, by omega, h1, by rw [rs.length]; exact hl, fun p hp => ?_⟩
            exact k _ _ _ (gle_upd (r.noF hp)) (r.new hp) (.tup upd_same ((reps_rep rs _).mono (gle_upd (r.noF hp))))
    · cases hz
  · cases hz
end DL

namespace DL
open PySem PySem.Spec PyProof.Rows L2
/-! ### {t: v for target in iter}, t a tuple -/
/-- the store at a tuple's key, at the level of a block -/
theorem putT_dict {X : Cx} {pins : List (Addr × Obj)} {σ : L2.St} {H : Hp} {s : Shared} {E : Value → Shared → Prop} {D b : Addr} {kvs : List (List Key × V)} {k : List Key} {v : V} {r : Value} {Q : Unit → Shared → Prop} (hu : X.A.units < cLine) (J : Inv X pins σ H s) (eD : H D = some (.dT kvs)) (eb : H b = some (.tup (k.map kV))) (lt : kvs.length < sizeLine)
    (rv : RelV v r) (go : ∀ s2, Inv X pins σ (upd H D (.dT (putK kvs k v))) s2 → Q () s2) : wpAny (model X.prog X.w) X.A (dictSet D (.ref b) r) Q E s := by
  obtain ⟨z, ns, xs, rel, dd⟩ := dt_of J.hok eD
  have zx : xs.length ≤ sizeLine := by rw [← Paired.length rel]; exact z
  have zl : (putK kvs k v).length ≤ sizeLine := by have := length_putK kvs k v; omega
  refine wpAny_dictSet_heap (knd := tupleKind (mixKind X.prog X.w)) (hsz := zx) hu (key_of J.hok eb) dd fun h2 dd2 sb => go _ ?_
  obtain ⟨q, es, ep, hq, w2, w3, w4, _, w5⟩ := dd2
  refine d_write J (by rw [eD]; exact True.intro) sb ⟨q, hq⟩ ⟨zl, ns, _, (rel.put k eb rv).keeps fun c ys ec => ?_, q, es, ep, hq, w2, w3, w4, w5⟩
  exact (upd_ne (ne_of ec eD (fun z => nomatch z))).trans ec
def tDcT (wi : TI) (g : TG) (tt : TT) (tk tv : TE) (vs : List Nat) : TE := fun σ H Q => wi σ H fun J H1 => ∀ D, H1 D = none → ∃ W : Nat → Nat → Hp → Prop, (∃ m, W 0 m (upd H1 D (.dT []))) ∧ ∀ i m H, W i m H →
  (J.stop i H ∧ Q (.ref D) H) ∨ (J.go i H ∧ ∃ Nx : Hp → Prop, (∀ H', Nx H' → ∃ m', m' < m ∧ W (i + 1) m' H') ∧ ∀ x H', J.yld i H x H' → g x (wipe σ vs) H' fun σ2 H2 => wipe σ2 vs = wipe σ vs ∧ tt σ2 H2 fun b H3 =>
    if b = true then tk σ2 H3 fun y H4 => tv σ2 H4 fun z H5 => ∃ c kvs k, y = .ref c ∧ H5 c = some (.tup (k.map kV)) ∧ H5 D = some (.dT kvs) ∧ kvs.length < sizeLine ∧ Nx (upd H5 D (.dT (putK kvs k z))) else Nx H3)
section
variable {X : Cx}
theorem pe_dcT {kx vx tg iter : Expr} {ifs : List Expr} {scope : Scope} {own : List (Str × Nat)} {pos : Pos} {wi : TI} {g : TG} {tt : TT} {tk tv : TE} (hu : X.A.units < cLine) (calm : X.calm = true) (nd : X.N.Nodup) (walk : PI X tg iter wi) (ok : BlkOk X.N X.env.scope scope own)
    (mg : ∀ (s : Shared) (H : Hp) (C : Addr) (cl : List (Str × Addr)) (fp : List Addr), PG (X.blk s H scope (compEnvC scope cl C X.env) fp) tg g) (mt : ∀ (s : Shared) (H : Hp) (C : Addr) (cl : List (Str × Addr)) (fp : List Addr), PTs (X.blk s H scope (compEnvC scope cl C X.env) fp) ifs tt)
    (mk : ∀ (s : Shared) (H : Hp) (C : Addr) (cl : List (Str × Addr)) (fp : List Addr), PE (X.blk s H scope (compEnvC scope cl C X.env) fp) kx tk)
    (mv : ∀ (s : Shared) (H : Hp) (C : Addr) (cl : List (Str × Addr)) (fp : List Addr), PE (X.blk s H scope (compEnvC scope cl C X.env) fp) vx tv) (fold : ∀ x, foldedSetIterable iter X.env x = pure x := by intro _; rfl) :
    PE X (.DictComp kx vx [⟨tg, iter, ifs, 0⟩] scope pos) (tDcT wi g tt tk tv (own.map (·.2))) := by
  refine ⟨fun pins s σ H Q J h => ?_⟩
  rw [arm_eval_DictComp]
  have cells : ∀ y ∈ scope.names, y.2 = .free → ∃ c, X.env.cells.lookup y.1 = some c := fun y hy e => (ok.free y hy e).elim (fun k => J.ok.has _ (.inl k)) fun k => J.ok.has _ (.inr k)
  refine wpAny_comprehension_free rfl fold (closure_ok cells) ok.kind (fun y hy e => by rw [ok.uniq y hy, e]) (thn (walk.run pins s σ H _ J h) fun xv s1 hx => thn hx fun itv s2 h2 => ?_)
  obtain ⟨it, fp, tn, K2, H2, rfl, J2, T, st2, f2, q⟩ := h2
  refine wpAny_newObj_type (newEnv_comp ?_)
  generalize hD : s2.heap.objs.size = D
  have freeD : H2 D = none := J2.hok.fresh (Nat.le_of_eq hD)
  obtain ⟨W, ⟨m0, w0⟩, turn⟩ := q D freeD
  generalize hs3 : ({ s2 with heap := s2.heap.push { cls := .type "dict", data := .dict #[] } } : Shared) = s3
  have J3 : Inv X pins σ (upd H2 D (.dT [])) s3 := by
    rw [← hs3]
    refine J2.laid (t' := s2.toks) (fun b o e => Heap.get?_push_of_some _ e) (Nat.le_of_eq hD) ?_
    rw [← hD]
    exact dt_empty s2.heap J2.big
  have h3 : s3.heap = s2.heap.push { cls := .type "dict", data := .dict #[] } := by rw [← hs3]
  have f3 : ∀ b ∈ fp, FpOk X pins (upd H2 D (.dT [])) b ∧ b < s3.heap.objs.size := fun b hb => by
    obtain ⟨o, e, _⟩ := T.obj _ _ st2 b hb
    have lt := Heap.lt_size e
    refine ⟨⟨(upd_ne (by rw [← hD]; exact Nat.ne_of_lt lt)).trans (f2 b hb).1, (f2 b hb).2⟩, ?_⟩
    rw [h3, Heap.size_push]
    exact Nat.lt_succ_of_lt lt
  have st3 : tn 0 s3.heap := T.keep _ _ _ st2 fun b _ o e => by rw [h3]; exact Heap.get?_push_of_some _ e
  have J4 := block_start J3 ok nd f3
  generalize hcl : cellsFrom (s3.heap.objs.size + 1) scope.names (cloFrom X.env.cells scope.names []) = cl at J4 ⊢
  have pg := mg s3 (upd H2 D (.dT [])) s3.heap.objs.size cl fp
  have pt := mt s3 (upd H2 D (.dT [])) s3.heap.objs.size cl fp
  have pk := mk s3 (upd H2 D (.dT [])) s3.heap.objs.size cl fp
  have pv := mv s3 (upd H2 D (.dT [])) s3.heap.objs.size cl fp
  show codeAny _ _ (.compStart (.DictComp kx vx [⟨tg, iter, ifs, 0⟩] scope pos) 0 (.ref it) (.ref D) (compEnvC scope cl s3.heap.objs.size X.env)) _ { s3 with heap := pushCells (s3.heap.push { cls := .type "dict", data := .dict #[] }) scope.names }
  have nfp : ∀ b ∈ fp, (upd H2 D (.dT [])) b = none := fun b hb => (f3 b hb).1.1
  generalize hce : compEnvC scope cl s3.heap.objs.size X.env = ce at J4 pg pt pk pv ⊢
  have cL : ce.locals = s3.heap.objs.size := by subst hce; rfl
  generalize hH3 : upd H2 D (.dT []) = H3 at J3 J4 pg pt pk pv w0 nfp f3
  generalize hs4 : ({ s3 with heap := pushCells (s3.heap.push { cls := .type "dict", data := .dict #[] }) scope.names } : Shared) = s4 at J4 ⊢
  have st4 : tn 0 s4.heap := T.keep _ _ _ st3 fun b _ o e => by rw [← hs4]; exact pushCells_keeps _ _ _ _ (Heap.get?_push_of_some _ e)
  have still : ∀ {σ' : L2.St} {H' : Hp} {s' : Shared}, Inv (X.blk s3 H3 scope ce fp) [] σ' H' s' → (∀ b ∈ fp, H' b = none) → ∀ b ∈ fp, FpOk (X.blk s3 H3 scope ce fp) [] H' b := fun {σ' H' s'} I' hn b hb =>
    ⟨hn b hb, (I'.ok.exf b hb).1, I'.ok.exfs b hb, .inl hb, fun x c e => (I'.ok.exf b hb).2 x c e, fun p hp => absurd (show p ∈ ([] : List (Addr × Obj)) ++ [] from hp) (by simp)⟩
  suffices loop : codeAny (model X.prog X.w) X.A (.compLoop (.DictComp kx vx [⟨tg, iter, ifs, 0⟩] scope pos) 0 (.ref it) (.ref D) ce) (compPost (model X.prog X.w) X.A X.xe none (EP X pins σ Q) (.ref D) s3.heap.objs.size) s4 from codeAny_compStart_dict loop (T.self X.A 0 _ _ _ st4 loop)
  refine compLoop_anyD (fun n s' => ∃ i H', Inv (X.blk s3 H3 scope ce fp) [] (wipe σ (own.map (·.2))) H' s' ∧ tn i s'.heap ∧ (∀ b ∈ fp, H' b = none) ∧ W i n H') ?_ m0 ⟨0, H3, J4, st4, nfp, w0⟩
  rintro n s5 ⟨i, H5, J5, st5, n5, w5⟩
  rcases turn i n H5 w5 with ⟨stop, qq⟩ | ⟨more, Nx, hNx, step⟩
  · refine thnF (T.done (X.blk s3 H3 scope ce fp) rfl rfl rfl calm i [] s5 _ H5 (fun _ _ => False) J5 (still J5 n5) st5 stop) fun r s6 ⟨hr, J6⟩ => ?_
    subst hr
    have J7 : Inv X pins σ H5 s6 := J3.call' (ch := fp) J6.os J6.base J6.hok J6.bare fun b hb => ⟨(f3 b hb).1.2.2.2.1, (f3 b hb).1.2.1, (f3 b hb).1.2.2.2.2.1, (f3 b hb).1.2.2.2.2.2⟩
    have nC : H5 s3.heap.objs.size = none := cL ▸ (show H5 ce.locals = none from J6.free)
    obtain ⟨m, hn, _⟩ := J6.loc
    have hn : s6.heap.Ns ce.locals m := hn
    rw [cL] at hn
    refine ⟨m, hn, fun h7 sb => ?_⟩
    obtain ⟨f0, f1, _, f3', f4, f5⟩ := J3.fpOk (Nat.le_refl _) nC
    exact ⟨.ref D, H5, J7.turned (t' := s6.toks) (fun b o hb e => (sb.2 b hb).trans e) f0 f1 f3' f4 f5, rfl, qq⟩
  · refine thnF (T.item (X.blk s3 H3 scope ce fp) rfl rfl rfl calm i [] s5 _ H5 (fun _ _ => False) J5 (still J5 n5) st5 more) fun r s6 ⟨u, hr, h6⟩ => ?_
    subst hr
    refine thnF h6 fun _ s7 ⟨x, H7, J7, r7, y7, st7, n7⟩ => ?_
    refine thnF (pg.run _ s7 _ H7 x u _ (J7.pinned (still J7 n7) (T.obj _ _ st7)) r7 (step x H7 y7)) fun _ s8 ⟨σ8, H8, J8, hw8, q8⟩ => ?_
    refine thnF (pt.run _ s8 σ8 H8 _ J8 q8) fun b s9 ⟨H9, J9, q9⟩ => ?_
    have ends : ∀ {s' : Shared} {H' : Hp}, Inv (X.blk s3 H3 scope ce fp) ([] ++ pinsAt fp s7.heap) σ8 H' s' → Nx H' → ∃ m, m < n ∧ ∃ i H', Inv (X.blk s3 H3 scope ce fp) [] (wipe σ (own.map (·.2))) H' s' ∧ tn i s'.heap ∧ (∀ b ∈ fp, H' b = none) ∧ W i m H' := fun {s' H'} I' nx => by
      obtain ⟨m', hm, w'⟩ := hNx H' nx
      have pins' : ∀ b ∈ fp, ∀ o, s7.heap.get? b = some o → s'.heap.get? b = some o ∧ H' b = none := fun b hb o e =>
        have z := I'.pin (b, o) (List.mem_append_right _ (List.mem_append_right _ (mem_pinsAt hb e)))
        ⟨z.1, z.2.1⟩
      refine ⟨m', hm, i + 1, H', (I'.unpinned (pins := [])).weak (by rw [← hw8, wipe_length]) (fun j v e => ?_), T.keep _ _ _ st7 fun b hb o e => (pins' b hb o e).1, fun b hb => ?_, w'⟩
      · rw [← hw8] at e
        exact (wipe_some e).1
      · obtain ⟨o, e, _⟩ := T.obj _ _ st7 b hb
        exact (pins' b hb o e).2
    cases b with
    | false =>
      simp only [Bool.false_eq_true, if_false] at q9 ⊢
      exact ends J9 q9
    | true =>
      simp only [if_true] at q9 ⊢
      refine thnF (pk.run _ s9 σ8 H9 _ J9 q9) fun z s10 ⟨yk, H10, J10, r10, q10⟩ => ?_
      refine thnF (pv.run _ s10 σ8 H10 _ J10 q10) fun z2 s11 ⟨yv, H11, J11, r11, c, kvs, k, ek, eb, hD11, hz11, nx⟩ => ?_
      subst ek
      cases (show z = Value.ref c from r10)
      exact putT_dict (X := X.blk s3 H3 scope ce fp) hu J11 hD11 eb hz11 r11 fun s12 J12 => ends J12 nx
end
end DL

namespace DL
open PySem PySem.Spec L2
/-! ### {t: v for ..} as a cell -/
def dcs (g : MG) (t : MT) (mk mv : ME) (vs : List Nat) : List (List Key × D) → List D → S → R (List (List Key × D))
  | acc, [] => fun s => .ok acc s
  | acc, d :: ds => fun s => match g d with
    | none => .stuck
    | some l => match t (s.puts l) with
      | .ok b s1 => if b then (match mk s1 with
          | .ok y s2 => (match mv s2 with
            | .ok z s3 => (match keyD y with
              | some k => if acc.length < 1000 ∧ noX s3 = true then dcs g t mk mv vs (putD acc k z) ds (wipeS s3 vs) else .stuck
              | none => .stuck)
            | _ => .stuck)
          | _ => .stuck) else if noX s1 = true then dcs g t mk mv vs acc ds (wipeS s1 vs) else .stuck
      | _ => .stuck
def endD : R (List (List Key × D)) → R D
  | .ok kvs s => .ok (.loc s.st.length) { s with st := s.st ++ [.dtt kvs] }
  | _ => .stuck
def mDc (it : MA) (g : MG) (t : MT) (mk mv : ME) (vs : List Nat) : ME := bnd it fun ds s => if noX s = true then endD (dcs g t mk mv vs [] ds (wipeS s vs)) else .stuck
theorem noX_wipe {s : S} {vs : List Nat} (h : noX s = true) : noX (wipeS s vs) = true := by
  refine List.all_eq_true.mpr fun x hx => ?_
  obtain ⟨i, hi⟩ := List.mem_iff_getElem?.mp hx
  by_cases hv : i ∈ vs
  · rw [wipeS_emp hv hi]
  · have key : ∀ (vs : List Nat), i ∉ vs → (wipeS s vs).sl[i]? = s.sl[i]? := by
      intro vs
      induction vs with
      | nil => exact fun _ => rfl
      | cons v vs ih =>
        intro hn
        simp only [List.mem_cons, not_or] at hn
        exact (List.getElem?_set_ne (Ne.symm hn.1)).trans (ih hn.2)
    rw [key vs hv] at hi
    exact List.all_eq_true.mp h _ (List.mem_of_getElem? hi)
theorem repU_at {K : PySem.W.Frag} {G : Gh} : ∀ {lv : List (Nat × V)} {l : List (Nat × D)}, RepU K G lv l → ∀ p ∈ lv, ∃ q ∈ l, q.1 = p.1
  | _, _, .nil, p, hp => by cases hp
  | _, _, .cons a r, p, hp => by
    rcases List.mem_cons.mp hp with z | z
    · subst z
      exact ⟨_, List.mem_cons_self, a.1.symm⟩
    · obtain ⟨q, q1, q2⟩ := repU_at r p z
      exact ⟨q, List.mem_cons_of_mem _ q1, q2⟩
section
variable {X : Cx} {W : WX} {it : MA} {g : MG} {ix : List Nat} {t : MT} {mk mv : ME}
theorem dc_run {σ : L2.St} {H : Hp} {Q : VK} {vs : List Nat} (hix : ∀ i ∈ ix, i ∈ vs) (hgx : ∀ d l, g d = some l → ∀ p ∈ l, p.1 ∈ ix) (h : tG X.K X.pn W (AR X.K) (mDc it g t mk mv vs) σ H Q) :
    tDcT (tG X.K X.pn W (AI X.K) it) (tTg X.K g) (tG X.K [] WF AB t) (tG X.K [] WF (AR X.K) mk) (tG X.K [] WF (AR X.K) mv) vs σ H Q := by
  obtain ⟨w, rfl, rfl, r, h⟩ := h
  refine run r h fun ds s' G' J H' g' r' I h' => ?_
  intro L hL
  split at h'
  · rename_i hx
    have r0 : Rel X.K [] { w with G := G', σ := L2.wipe w.σ vs, H := upd H' L (.dT []), s := wipeS s' vs, pr := (L, .dT []) :: w.pr } := Rel.prPush (w := { w with G := G', σ := L2.wipe w.σ vs, H := H', s := wipeS s' vs }) (Rel.wipe (Rel.pn r' hx) vs) hL
    have hl : ∀ q ∈ w.pr, q.1 ≠ L := fun q hq => Rel.noP r' hL q hq
    refine ⟨fun i mm H => mm = ds.length - i ∧ i ≤ ds.length ∧ ∃ (G2 : Gh) (s2 : S) (acc : List (List Key × D)) (us : List (List Key × V)), G'.le G2 ∧ Rel X.K [] { w with G := G2, σ := L2.wipe w.σ vs, H := H, s := wipeS s2 vs, pr := (L, .dT us) :: w.pr } ∧ KvRel X.K G2 us acc ∧
      noX (wipeS s2 vs) = true ∧ okG X.K X.pn W (AR X.K) { w with G := G2, H := H, s := wipeS s2 vs } Q (endD (dcs g t mk mv vs acc (ds.drop i) (wipeS s2 vs))), ⟨_, rfl, Nat.zero_le _, G', s', [], [], .refl _, r0, .nil, noX_wipe hx, okG.up (w := { w with G := G', H := H', s := s' }) h' (.refl _)⟩, ?_⟩
    rintro i mm H2 ⟨rfl, hi, G2, s2, acc, us, g2, r2, rs, hx2, h2⟩
    by_cases hlt : i < ds.length
    · have hd : ds[i]? = some ds[i] := List.getElem?_eq_getElem hlt
      rw [List.drop_eq_getElem_cons hlt] at h2
      refine .inr ⟨I.go _ _ r2 g2 i hlt, fun H => ∃ (G2 : Gh) (s2 : S) (acc : List (List Key × D)) (us : List (List Key × V)), G'.le G2 ∧ Rel X.K [] { w with G := G2, σ := L2.wipe w.σ vs, H := H, s := wipeS s2 vs, pr := (L, .dT us) :: w.pr } ∧ KvRel X.K G2 us acc ∧
          noX (wipeS s2 vs) = true ∧ okG X.K X.pn W (AR X.K) { w with G := G2, H := H, s := wipeS s2 vs } Q (endD (dcs g t mk mv vs acc (ds.drop (i + 1)) (wipeS s2 vs))), fun H' hw => ⟨_, by omega, rfl, hlt, hw⟩, fun x H3 y => ?_⟩
      obtain ⟨G3, g3, r3, p3⟩ := I.yld _ _ r2 g2 i _ x H3 hd y
      have h2' := h2
      unfold dcs at h2'
      cases hl2 : g ds[i] with
      | none => simp only [hl2] at h2'; exact h2'.elim
      | some l =>
        simp only [hl2] at h2'
        refine ⟨[], _, ds[i], l, rfl, r3, p3, hl2, fun lv hv => ?_⟩
        have hlv : ∀ p ∈ lv, p.1 ∈ vs := fun p hp => by
          obtain ⟨q, q1, q2⟩ := repU_at hv p hp
          rw [← q2]
          exact hix _ (hgx _ _ hl2 q q1)
        have wσ : L2.wipe (upds (L2.wipe w.σ vs) lv) vs = L2.wipe w.σ vs := by rw [wipe_upds hlv, wipe_wipe]
        refine ⟨wσ, ?_⟩
        have r4 := Rel.sets r3 hv
        cases ht : t ((wipeS s2 vs).puts l) with
        | exc y s5 => simp only [ht] at h2'; exact h2'.elim
        | stuck => simp only [ht] at h2'; exact h2'.elim
        | ok b s5 =>
          simp only [ht] at h2'
          refine ⟨_, rfl, rfl, r4, ?_⟩
          show okG X.K [] WF AB _ _ (t ((wipeS s2 vs).puts l))
          rw [ht]
          intro G5 b5 H5 g5 r5 e5
          subst e5
          cases b5 with
          | false =>
            simp only [Bool.false_eq_true, if_false] at h2' ⊢
            split at h2'
            · rename_i hx5
              have r6 := Rel.wipe (w := { w with G := G5, σ := upds (L2.wipe w.σ vs) lv, H := H5, s := s5, pr := (L, .dT us) :: w.pr }) r5 vs
              dsimp only at r6
              rw [wσ] at r6
              exact ⟨G5, s5, acc, us, (g2.trans g3).trans g5, r6, rs.mono (g3.trans g5), noX_wipe hx5, okG.up (w := { w with G := G2, H := H2, s := wipeS s2 vs }) h2' (g3.trans g5)⟩
            · exact h2'.elim
          | true =>
            simp only [if_true] at h2' ⊢
            cases hm : mk s5 with
            | exc y s6 => simp only [hm] at h2'; exact h2'.elim
            | stuck => simp only [hm] at h2'; exact h2'.elim
            | ok y s6 =>
              simp only [hm] at h2'
              refine ⟨_, rfl, rfl, r5, ?_⟩
              show okG X.K [] WF (AR X.K) _ _ (mk s5)
              rw [hm]
              intro G6 vy H6 g6 r6 p6
              cases hm2 : mv s6 with
              | exc y2 s7 => simp only [hm2] at h2'; exact h2'.elim
              | stuck => simp only [hm2] at h2'; exact h2'.elim
              | ok z s7 =>
                simp only [hm2] at h2'
                refine ⟨_, rfl, rfl, r6, ?_⟩
                show okG X.K [] WF (AR X.K) _ _ (mv s6)
                rw [hm2]
                intro G7 vz H7 g7 r7 p7
                cases hk : keyD y with
                | none => simp only [hk] at h2'; exact h2'.elim
                | some k =>
                  simp only [hk] at h2'
                  split at h2'
                  · rename_i hf
                    have hH : H7 L = some (.dT us) := (r7.pr (L, .dT us) List.mem_cons_self).1
                    obtain ⟨b, rfl, hb⟩ := key_v r7 (p6.mono g7) hk
                    have gg := ((g3.trans g5).trans g6).trans g7
                    refine ⟨b, us, k, rfl, hb, hH, by rw [kv_len rs, sizeLine_eq]; omega, ?_⟩
                    have r8 := Rel.wipe (Rel.prPut (o' := .dT (putK us k vz)) r7 rfl hl) vs
                    dsimp only at r8
                    rw [wσ] at r8
                    exact ⟨G7, s7, putD acc k z, putK us k vz, g2.trans gg, r8, kv_put (rs.mono gg) p7, noX_wipe hf.2, okG.up (w := { w with G := G2, H := H2, s := wipeS s2 vs }) h2' gg⟩
                  · exact h2'.elim
    · have e : i = ds.length := by omega
      subst e
      rw [List.drop_length] at h2
      refine .inl ⟨I.stop _ _ r2 g2 _ (Nat.le_refl _), ?_⟩
      obtain ⟨q1, q2, q3, q4, q5⟩ := r2.pr (L, .dT us) List.mem_cons_self
      have r9 : Rel X.K [] { w with G := G2, σ := w.σ, H := H2, s := wipeS s2 vs, pr := (L, .dT us) :: w.pr } := Rel.unwipe (w := { w with G := G2, H := H2, pr := (L, .dT us) :: w.pr }) (σ := w.σ) (s := s2) (vs := vs) r2
      have q6 : ∀ (i : Nat) es, (wipeS s2 vs).sl[i]? = some (.own es) → w.σ[i]? ≠ some (some (.ref L)) := (r9.pr (L, .dT us) List.mem_cons_self).2.2.2.2
      obtain ⟨g3, r4, q7⟩ := Rel.mkCell (w := { w with G := G2, σ := w.σ, H := H2, s := wipeS s2 vs, pr := (L, .dT us) :: w.pr }) (o := .dtt acc) (u := .dT us) (l := w.pr) (Rel.pn r9 hx2) q2 q3.1 q4 q6 (fun q hq => ⟨List.mem_cons_of_mem _ hq, hl q hq⟩) (fun G3 H3 g3 hH => ⟨us, hH, rs.mono g3⟩)
      have eH : upd H2 L (.dT us) = H2 := by
        funext a
        by_cases e : a = L
        · subst e; exact upd_same.trans q1.symm
        · exact upd_ne e
      rw [show (upd ({ w with G := G2, σ := w.σ, H := H2, s := wipeS s2 vs, pr := (L, .dT us) :: w.pr } : Wd).H L (.dT us)) = H2 from eH] at r4
      exact h2 _ _ H2 g3 r4 q7
  · exact h'.elim
variable {kx vx tg iter : Expr} {ifs : List Expr} {scope : Scope} {own : List (Str × Nat)} {pos : Pos}
theorem je_dc (hu : X.A.units < cLine) (hc : X.calm = true) (hN : X.N.Nodup) (hi : JI X W tg iter it) (ok : BlkOk X.N X.env.scope scope own)
    (hg : ∀ (s : Shared) (H : Hp) (C : Addr) (cl : List (Str × Addr)) (fp : List Addr), JG (X.blk s H scope (compEnvC scope cl C X.env) fp) tg g ix) (ht : ∀ (s : Shared) (H : Hp) (C : Addr) (cl : List (Str × Addr)) (fp : List Addr), JTs (X.blk s H scope (compEnvC scope cl C X.env) fp) WF ifs t)
    (hk : ∀ (s : Shared) (H : Hp) (C : Addr) (cl : List (Str × Addr)) (fp : List Addr), JE (X.blk s H scope (compEnvC scope cl C X.env) fp) WF kx mk) (hv : ∀ (s : Shared) (H : Hp) (C : Addr) (cl : List (Str × Addr)) (fp : List Addr), JE (X.blk s H scope (compEnvC scope cl C X.env) fp) WF vx mv) (hix : ∀ i ∈ ix, i ∈ own.map (·.2) := by decide) (hs : ∀ x, foldedSetIterable iter X.env x = pure x := by intro _; rfl) :
    JE X W (.DictComp kx vx [⟨tg, iter, ifs, 0⟩] scope pos) (mDc it g t mk mv (own.map (·.2))) := by
  have hgx : ∀ d l, g d = some l → ∀ p ∈ l, p.1 ∈ ix := (hg (X.s_0) (X.H_0) 0 [] []).ix
  exact PE.imp (pe_dcT (g := tTg X.K g) (tt := tG X.K [] WF AB t) (tk := tG X.K [] WF (AR X.K) mk) (tv := tG X.K [] WF (AR X.K) mv) hu hc hN hi ok (fun s H C cl fp => (hg s H C cl fp).pg) (fun s H C cl fp => ht s H C cl fp) (fun s H C cl fp => hk s H C cl fp) (fun s H C cl fp => hv s H C cl fp) hs) fun σ H Q h => dc_run hix hgx h
end
end DL

namespace DL
open PySem PySem.Spec L2
/-! ### range(i, j, c) -/
def stepsD (lo c : Int) (n : Nat) : List D := (List.range n).map fun (k : Nat) => .int (lo + k * c)
theorem stepsD_get {lo c : Int} {n i : Nat} {d : D} (h : (stepsD lo c n)[i]? = some d) : i < n ∧ d = .int (lo + (i : Nat) * c) := by
  unfold stepsD at h
  rw [List.getElem?_map] at h
  by_cases hl : i < n
  · rw [List.getElem?_range hl] at h
    cases h
    exact ⟨hl, rfl⟩
  · rw [List.getElem?_eq_none (by simpa using hl)] at h
    cases h
theorem itc_r {K : PySem.W.Frag} {G : Gh} {lo c : Int} {n : Nat} : ItR K (Itc lo c n) G (stepsD lo c n) where
  go := fun pn w r g i hi => by show i < n; simpa [stepsD] using hi
  yld := fun pn w r g i d x H' hd y => by
    obtain ⟨e, y⟩ := y
    subst e y
    obtain ⟨_, rfl⟩ := stepsD_get hd
    exact ⟨w.G, .refl _, r, .int _⟩
  stop := fun pn w r g i hi => by show n ≤ i; simpa [stepsD] using hi
def rng3 : List D → Option (List D)
  | [.int i, .int j, .int c] => if c ≠ 0 ∧ c.natAbs < 1073741824 ∧ Builtin.Range.small i j c = true ∧ 0 ≤ Builtin.Range.rangeSize i j c then some (stepsD i c (Builtin.Range.rangeSize i j c).toNat) else none
  | _ => none
theorem ji_range3 {X : Cx} {W : WX} {tg a b c : Expr} {m : MA} {p pos : Pos} (hg : Gl X "range") (hm : X.mg "range" = none) (ha : JA X W [a, b, c] m) (hs : starEach [a, b, c] X.env = (false, eval a X.env) :: starEach [b, c] X.env := by rfl) (hpl : (backTo pos (starEach [b, c] X.env)).any (·.1) = false := by rfl) : JI X W tg (.Call (.Name "range" p) [a, b, c] [] pos) (mRng rng3 m) := by
  refine PI.imp (pi_range3 hg hm ha.pa hs hpl) fun σ H Q h => ?_
  obtain ⟨w, rfl, rfl, r, h⟩ := h
  refine run r h fun ds s2 G' vs H' g r' q h' => ?_
  cases hd : rng3 ds with
  | none => rw [hd] at h'; exact h'.elim
  | some l =>
    rw [hd] at h'
    unfold rng3 at hd
    split at hd
    · split at hd
      · rename_i hj
        cases hd
        cases q with
        | cons q1 q2 =>
          cases q1
          cases q2 with
          | cons q2 q3 =>
            cases q2
            cases q3 with
            | cons q3 q4 =>
              cases q3; cases q4
              exact ⟨_, _, _, _, rfl, ⟨hj.1, hj.2.1, hj.2.2.1, (Int.toNat_of_nonneg hj.2.2.2).symm⟩, fin r' h' itc_r⟩
      · cases hd
    · cases hd
end DL

/-! the defs that many laws share, and what they do -/
namespace LC
open PySem PySem.Spec L2 DL
noncomputable section
def m__law_draw : MS := (mSeq (mIfS (mBl (mBin iGt (mGet (mVar 0) (.inr "rest")) (mC (.int 0)))) (mSeq (mSet 2 (mBin iMod (mUn fInt (mGet (mVar 0) (.inr "rest"))) (mVar 1)))
  (mSeq (mPut (mVar 0) (.inr "rest") (mBin iDiv (mGet (mVar 0) (.inr "rest")) (mVar 1)))
  (mRet (mVar 2)))) mPass)
  (mSeq (mPar 3 4 (mCons (mGet (mVar 0) (.inr "begun")) (mCons (mUn fLen (mGet (mVar 0) (.inr "cells"))) mNil)))
  (mSeq (mPut (mVar 0) (.inr "begun") (mBin fAdd (mVar 3) (mC (.int 1))))
  (mSeq (mSet 5 (mBin fAdd (mBin fMul (mC (.int 73)) (mVar 3)) (mC (.int 19))))
  (mSeq (mIfS (mBl (mBin iGt (mVar 4) (mC (.int 0)))) (mSet 5 (mBin ixD (mGet (mVar 0) (.inr "cells")) (mBin iMod (mUn fInt (mLook 3)) (mVar 4)))) mPass)
  (mSeq (mIfS (mAndT (mBl (mBin iLt (mVar 3) (mVar 4))) (mBl (mBin iGe (mUn fAbs (mLook 5)) (mBin iPow (mC (.int 10)) (mC (.int 18)))))) (mSeq (mPut (mVar 0) (.inr "rest") (mBin iDiv (mBin iSub (mUn fAbs (mLook 5)) (mBin iPow (mC (.int 10)) (mC (.int 18)))) (mVar 1)))
  (mRet (mBin iMod (mBin iSub (mUn fAbs (mLook 5)) (mBin iPow (mC (.int 10)) (mC (.int 18)))) (mVar 1)))) mPass)
  (mSeq (mSet 6 (mBin iMod (mUn fInt (mBin fAdd (mBin fAdd (mBin fMul (mBin iMod (mUn fInt (mLook 5)) (mC (.int 4294967231))) (mC (.int 48271))) (mBin fMul (mBin fMul (mC (.int 30269)) (mVar 3)) (mVar 3))) (mC (.int 211)))) (mC (.int 4294967279))))
  (mSeq (mSet 6 (mBin iMod (mUn fInt (mBin fAdd (mBin fAdd (mBin fAdd (mBin fMul (mVar 6) (mVar 6)) (mBin fMul (mC (.int 69069)) (mVar 6))) (mBin fMul (mC (.int 23)) (mVar 3))) (mC (.int 7)))) (mC (.int 4294967291))))
  (mSeq (mSet 6 (mBin iDiv (mBin iMod (mUn fInt (mBin fMul (mVar 6) (mBin fAdd (mVar 6) (mC (.int 32771))))) (mC (.int 4294967197))) (mC (.int 64))))
  (mRet (mBin iMod (mUn fInt (mLook 6)) (mVar 1))))))))))))
def f__law_draw : Fn := fnM 7 m__law_draw
def m__law_pick : MS := (mRet (mIxN 1 (mCall f__law_draw (mCons (mVar 0) (mCons (mUn fLen (mLook 1)) mNil)))))
def f__law_pick : Fn := fnM 2 m__law_pick
def m__law_shuffled : MS := (mSeq (mParFF 2 3 (mUnF itD (mLook 1)) (mLst mNil))
  (mSeq (mWhile (mBl (mNeV 2 (mFz (mLst mNil)))) (mExpr (mApp 3 (mPopAt 2 (mCall f__law_draw (mCons (mVar 0) (mCons (mUn fLen (mLook 2)) mNil)))))))
  (mRet (mVar 3))))
def f__law_shuffled : Fn := fnM 4 m__law_shuffled
def m__law_pen : MS := (mRet (mDict [(.inr "cells", (mFz (mUnF itD (mSlN 0 mNoP (mPart (mC (.int 63))))))), (.inr "begun", (mC (.int 0))), (.inr "rest", (mC (.int 0)))]))
def f__law_pen : Fn := fnM 1 m__law_pen
def m__law_whole : MS := (mRet (mAnd (mUn (fIsi "int") (mLook 0)) (mNot (mUn (fIsi "bool") (mLook 0)))))
def f__law_whole : Fn := fnM 1 m__law_whole
def m_back : MS := (mSeq (mOwn 1 (mBinF lRepL (mFz (mLst (mCons (mC (.int 0)) mNil))) (mUn fLen (mLook 0))))
  (mSeq (mFor (mEnum (mVar 0)) (gTp 2 (gsCons (gNm 2) (gsCons (gNm 3) gsNil))) (mSetIx 1 (mVar 3) (mVar 2)))
  (mRet (mUn fTuple (mLook 1)))))
def f_back : Fn := fnM 4 m_back
def m_checked : MS := (mSeq (mIfS (mOrT (mNotT (mTru (mUn (fIsi "tuple") (mLook 0)))) (mNotT (mTru (mUn fAll (mFz (mLc (mIt (mVar 0)) (gNm 1) mYes (mAnd (mUn (fIsi "int") (mLook 1)) (mNot (mUn (fIsi "bool") (mLook 1)))) [1])))))) (mRaise "BadRenumbering" "numbers" (mVar 0)) mPass)
  (mSeq (mIfS (mBl (mBin fNe (mFz (mUnF fSortI (mFz (mLc (mIt (mVar 0)) (gNm 1) mYes (mUn fInt (mLook 1)) [1])))) (mFz (mUnF rgD (mUn fLen (mLook 0)))))) (mRaise "BadRenumbering" "numbers" (mVar 0)) mPass)
  (mRet (mVar 0))))
def f_checked : Fn := fnM 2 m_checked
def m_inverse : MS := (mRet (mCall f_back (mCons (mCall f_checked (mCons (mVar 0) mNil)) mNil)))
def f_inverse : Fn := fnM 1 m_inverse
def m_after : MS := (mRet (mUn fTuple (mFz (mLc (mIt (mVar 1)) (gNm 2) mYes (mIxN 0 (mVar 2)) [2]))))
def f_after : Fn := fnM 3 m_after
def m_sized : MS := (mSeq (mIfS (mBl (mBin fNe (mUn fLen (mCall f_checked (mCons (mVar 0) mNil))) (mVar 1))) (mRaise "BadRenumbering" "numbers" (mVar 0)) mPass)
  (mRet (mVar 0)))
def f_sized : Fn := fnM 2 m_sized
def m_compose : MS := (mSeq (mExpr (mCall f_checked (mCons (mVar 0) mNil)))
  (mRet (mCall f_after (mCons (mVar 0) (mCons (mCall f_sized (mCons (mVar 1) (mCons (mUn fLen (mLook 0)) mNil))) mNil)))))
def f_compose : Fn := fnM 2 m_compose
end
def penL (cs : List Int) (b r : Int) : List (Key × D) := [(.inr "cells", .lst (cs.map .int)), (.inr "begun", .int b), (.inr "rest", .int r)]
theorem pen_c (cs : List Int) (b r : Int) : valD (penL cs b r) (.inr "cells") = some (.lst (cs.map .int)) := rfl
theorem pen_b (cs : List Int) (b r : Int) : valD (penL cs b r) (.inr "begun") = some (.int b) := rfl
theorem pen_r (cs : List Int) (b r : Int) : valD (penL cs b r) (.inr "rest") = some (.int r) := rfl
theorem put_b (cs : List Int) (b r x : Int) : putD (penL cs b r) (.inr "begun") (.int x) = penL cs x r := rfl
theorem put_r (cs : List Int) (b r x : Int) : putD (penL cs b r) (.inr "rest") (.int x) = penL cs b x := rfl
theorem pen_l (cs : List Int) (b r : Int) : (penL cs b r).length < 1000 := by show 3 < 1000; decide
theorem draw1 (rs : List Ob) (cs : List Int) (b r m : Int) (hr : 0 < r) (hm : 0 < m) (hb : bits m < 9000) : f__law_draw [.loc 0, .int m] (.dct (penL cs b r) :: rs) = .ok (.int (r % m)) (.dct (penL cs b (r / m)) :: rs) := by
  simp [f__law_draw, fnM, m__law_draw, mSeq, mIfS, mBl, mBin, mGet, mVar, bnd, lift, DL.ret, mC, slots, pen_r, iGt, intF, optB, isBl, hr, mUn, fInt, mSet, mPut, iMod, iDiv, hm, hb, S.put, put_r, pen_l, mRet, endR]
theorem bits_lt {i : Int} {k : Nat} (h0 : 0 ≤ i) (h : i < 2 ^ k) : bits i < k + 1 := by
  unfold bits
  have h2 : i.natAbs < 2 ^ k := by
    have : ((i.natAbs : Nat) : Int) = i := Int.natAbs_of_nonneg h0
    have e : ((2 ^ k : Nat) : Int) = (2 : Int) ^ k := by simp
    omega
  by_cases z : i.natAbs = 0
  · rw [z]; simp
  · have := (Nat.log2_lt z).mpr h2
    omega
theorem mul_ok {i j : Int} (h0 : 0 ≤ i) (h1 : i < 2 ^ 64) (h2 : 0 ≤ j) (h3 : j < 2 ^ 64) : fMul (.int i) (.int j) = some (.int (i * j)) := by
  have a := bits_lt h0 h1
  have b := bits_lt h2 h3
  simp only [fMul, iMul, intF]
  rw [if_pos (by omega)]
/-- the cell that is drawn -/
def cellOf (cs : List Int) (b : Int) : Int := if 0 < (cs.length : Int) then cs[(b % cs.length).toNat]?.getD 0 else 73 * b + 19
def stirOf (c b : Int) : Int :=
  let s1 := (c % 4294967231 * 48271 + 30269 * b * b + 211) % 4294967279
  let s2 := (s1 * s1 + 69069 * s1 + 23 * b + 7) % 4294967291
  s2 * (s2 + 32771) % 4294967197 / 64
theorem mod_rng (a : Int) {m : Int} (h : 0 < m) : 0 ≤ a % m ∧ a % m < m := ⟨Int.emod_nonneg _ (by omega), Int.emod_lt_of_pos _ h⟩
theorem draw2 (rs : List Ob) (cs : List Int) (b m : Int) (h0 : 0 ≤ b) (h1 : b < 2 ^ 30) (hl : cs.length ≤ 1000) (hm : 0 < m) (hb : bits m < 9000) : f__law_draw [.loc 0, .int m] (.dct (penL cs b 0) :: rs) =
    if b < cs.length ∧ 1000000000000000000 ≤ (if cellOf cs b < 0 then -cellOf cs b else cellOf cs b) then .ok (.int (((if cellOf cs b < 0 then -cellOf cs b else cellOf cs b) - 1000000000000000000) % m)) (.dct (penL cs (b + 1) (((if cellOf cs b < 0 then -cellOf cs b else cellOf cs b) - 1000000000000000000) / m)) :: rs)
    else .ok (.int (stirOf (cellOf cs b) b % m)) (.dct (penL cs (b + 1) 0) :: rs) := by
  have k1 := mul_ok (i := 73) (j := b) (by omega) (by omega) (by omega) (by omega)
  have k2 := mul_ok (i := 30269) (j := b) (by omega) (by omega) (by omega) (by omega)
  have k3 := mul_ok (i := 30269 * b) (j := b) (by omega) (by omega) (by omega) (by omega)
  have k4 := mul_ok (i := 23) (j := b) (by omega) (by omega) (by omega) (by omega)
  obtain ⟨a1, a2⟩ := mod_rng (cellOf cs b) (m := 4294967231) (by omega)
  have k5 := mul_ok (i := cellOf cs b % 4294967231) (j := 48271) a1 (by omega) (by omega) (by omega)
  obtain ⟨b1, b2⟩ := mod_rng (cellOf cs b % 4294967231 * 48271 + 30269 * b * b + 211) (m := 4294967279) (by omega)
  generalize hs1 : (cellOf cs b % 4294967231 * 48271 + 30269 * b * b + 211) % 4294967279 = s1 at b1 b2
  have k6 := mul_ok (i := s1) (j := s1) b1 (by omega) b1 (by omega)
  have k7 := mul_ok (i := 69069) (j := s1) (by omega) (by omega) b1 (by omega)
  obtain ⟨c1, c2⟩ := mod_rng (s1 * s1 + 69069 * s1 + 23 * b + 7) (m := 4294967291) (by omega)
  generalize hs2 : (s1 * s1 + 69069 * s1 + 23 * b + 7) % 4294967291 = s2 at c1 c2
  have k8 := mul_ok (i := s2) (j := s2 + 32771) c1 (by omega) (by omega) (by omega)
  have k9 : bits 64 < 9000 := by decide
  have kp : iPow (.int 10) (.int 18) = some (.int (1000000000000000000)) := by simp [iPow, intF]
  have hst : stirOf (cellOf cs b) b = s2 * (s2 + 32771) % 4294967197 / 64 := by
    unfold stirOf
    simp only [hs1, hs2]
  rw [hst]
  generalize hC : cellOf cs b = c at *
  generalize hA : (if c < 0 then -c else c) = ab
  by_cases hz : 0 < cs.length
  · have hc2 : atI (cs.map D.int) (b % cs.length) = some (.int c) := by
      obtain ⟨q1, q2⟩ := mod_rng b (m := cs.length) (by omega)
      have e : ixN (cs.map D.int).length (b % cs.length) = some (b % cs.length).toNat := by
        unfold ixN
        simp only [List.length_map]
        rw [if_pos (by omega), if_pos (by omega)]
      unfold atI
      rw [e]
      have hlt : (b % (cs.length : Int)).toNat < cs.length := by omega
      simp only [Option.bind_some, List.getElem?_map, List.getElem?_eq_getElem hlt, Option.map_some]
      unfold cellOf at hC
      rw [if_pos (by omega), List.getElem?_eq_getElem hlt, Option.getD_some] at hC
      rw [hC]
    by_cases c1 : b < cs.length
    · by_cases c2 : 1000000000000000000 ≤ ab
      · simp [f__law_draw, fnM, m__law_draw, mSeq, mIfS, mBl, mBin, mGet, mVar, bnd, lift, DL.ret, mC, slots, pen_r, pen_b, pen_c, iGt, iLt, iGe, iSub, fAbs, intF, optB, isBl, mUn, fInt, mSet, mPut, iMod, iDiv, hm, hb, S.put, put_r, put_b, pen_l, mRet, endR, mPass, mPar, mCons, mNil, fLen, itD, fAdd, k1, k2, k3, k4, k5, k6, k7, k8, k9, kp, hs1, hs2, ixD, mLook, cur, mAndT, hc2, hz, c1, c2, hA]
      · simp [f__law_draw, fnM, m__law_draw, mSeq, mIfS, mBl, mBin, mGet, mVar, bnd, lift, DL.ret, mC, slots, pen_r, pen_b, pen_c, iGt, iLt, iGe, iSub, fAbs, intF, optB, isBl, mUn, fInt, mSet, mPut, iMod, iDiv, hm, hb, S.put, put_r, put_b, pen_l, mRet, endR, mPass, mPar, mCons, mNil, fLen, itD, fAdd, k1, k2, k3, k4, k5, k6, k7, k8, k9, kp, hs1, hs2, ixD, mLook, cur, mAndT, hc2, hz, c1, c2, hA]
    · simp [f__law_draw, fnM, m__law_draw, mSeq, mIfS, mBl, mBin, mGet, mVar, bnd, lift, DL.ret, mC, slots, pen_r, pen_b, pen_c, iGt, iLt, iGe, iSub, fAbs, intF, optB, isBl, mUn, fInt, mSet, mPut, iMod, iDiv, hm, hb, S.put, put_r, put_b, pen_l, mRet, endR, mPass, mPar, mCons, mNil, fLen, itD, fAdd, k1, k2, k3, k4, k5, k6, k7, k8, k9, kp, hs1, hs2, ixD, mLook, cur, mAndT, hc2, hz, c1, hA]
  · have e0 : cs = [] := by
      cases cs with
      | nil => rfl
      | cons a l => simp at hz
    subst e0
    have hc2 : 73 * b + 19 = c := by
      rw [← hC]; unfold cellOf; simp
    have c1 : ¬ b < 0 := by omega
    simp [f__law_draw, fnM, m__law_draw, mSeq, mIfS, mBl, mBin, mGet, mVar, bnd, lift, DL.ret, mC, slots, pen_r, pen_b, pen_c, iGt, iLt, iGe, iSub, fAbs, intF, optB, isBl, mUn, fInt, mSet, mPut, iMod, iDiv, hm, hb, S.put, put_r, put_b, pen_l, mRet, endR, mPass, mPar, mCons, mNil, fLen, itD, fAdd, k1, k2, k3, k4, k5, k6, k7, k8, k9, kp, hs1, hs2, ixD, mLook, cur, mAndT, hc2, c1, hA]
/-! ### the pen -/
def IsPen (B : Nat) (st : List Ob) : Prop := ∃ cs b r rs, st = .dct (penL cs b r) :: rs ∧ cs.length ≤ 1000 ∧ 0 ≤ b ∧ b ≤ (B : Int) ∧ 0 ≤ r
theorem IsPen.mono {B C : Nat} {st : List Ob} (h : IsPen B st) (l : B ≤ C) : IsPen C st := by
  obtain ⟨cs, b, r, rs, h1, h2, h3, h4, h5⟩ := h
  exact ⟨cs, b, r, rs, h1, h2, h3, by omega, h5⟩
theorem draw_spec {B : Nat} {st : List Ob} {m : Int} (h : IsPen B st) (hB : B < 2 ^ 30) (hm : 0 < m) (hm2 : m < 2 ^ 60) : ∃ k st', f__law_draw [.loc 0, .int m] st = .ok (.int k) st' ∧ 0 ≤ k ∧ k < m ∧ IsPen (B + 1) st' := by
  obtain ⟨cs, b, r, rs, rfl, h2, h3, h4, h5⟩ := h
  have hb : bits m < 9000 := by have := bits_lt (i := m) (k := 60) (by omega) hm2; omega
  by_cases hr : 0 < r
  · refine ⟨_, _, draw1 rs cs b r m hr hm hb, (mod_rng r hm).1, (mod_rng r hm).2, cs, b, _, rs, rfl, h2, h3, by omega, Int.ediv_nonneg (by omega) (by omega)⟩
  · have e : r = 0 := by omega
    subst e
    have hd := draw2 rs cs b m h3 (by omega) h2 hm hb
    generalize (if cellOf cs b < 0 then -cellOf cs b else cellOf cs b) = ab at hd
    split at hd
    · rename_i hc
      refine ⟨_, _, hd, (mod_rng _ hm).1, (mod_rng _ hm).2, cs, _, _, rs, rfl, h2, by omega, by omega, Int.ediv_nonneg ?_ (by omega)⟩
      have := hc.2
      omega
    · exact ⟨_, _, hd, (mod_rng _ hm).1, (mod_rng _ hm).2, cs, _, _, rs, rfl, h2, by omega, by omega, by omega⟩
theorem pen_eq (ns : List Int) (h : ns.length ≤ 63) : f__law_pen [.kl (ns.map .int)] [] = .ok (.loc 0) [.dct (penL ns 0 0)] := by
  have e : cutL (ns.map D.int) none (some 63) = ns.map .int := by
    unfold cutL
    have e1 : HT.sIx (ns.map D.int).length 0 none = 0 := rfl
    have e2 : HT.sIx (ns.map D.int).length (ns.map D.int).length (some 63) = (ns.map D.int).length := by
      simp [HT.sIx]
      omega
    rw [e1, e2, List.drop_zero, Nat.sub_zero, List.take_length]
  simp [f__law_pen, fnM, m__law_pen, mRet, mDict, mVals, mFz, mUnF, mSlN, mNoP, mPart, bnd, DL.ret, mC, slots, cur, lift, cutD, e, itD, endR, penL]
theorem atI_get {xs : List D} {k : Int} (h0 : 0 ≤ k) (h1 : k < xs.length) : ∃ d, atI xs k = some d ∧ d ∈ xs := by
  have hk : k.toNat < xs.length := by omega
  refine ⟨xs[k.toNat], ?_, List.getElem_mem hk⟩
  unfold atI ixN
  rw [if_pos h0, if_pos h1]
  simp [hk]
theorem pick_spec {B : Nat} {st : List Ob} {ds : List D} (h : IsPen B st) (hB : B < 2 ^ 30) (h0 : ds ≠ []) (hl : ds.length < 1000) : ∃ d st', f__law_pick [.loc 0, .lst ds] st = .ok d st' ∧ d ∈ ds ∧ IsPen (B + 1) st' := by
  have hp : 0 < ds.length := List.length_pos_iff.mpr h0
  obtain ⟨k, st', e, k0, k1, hp'⟩ := draw_spec (m := ds.length) h hB (by omega) (by omega)
  obtain ⟨d, hd, hm⟩ := atI_get k0 k1
  refine ⟨d, st', ?_, hm, hp'⟩
  simp [f__law_pick, fnM, m__law_pick, mRet, mIxN, mIxV, mCall, mCons, mNil, mVar, mUn, fLen, itD, mLook, cur, bnd, DL.ret, lift, slots, e, outR, ixD, hd, endR]
/-! ### shuffled -/
theorem pd_ints : ∀ (n : Nat) (ns : List Int), pds (pd n) (ns.map .int) = some (ns.map .int)
  | n, [] => rfl
  | n, a :: r => by
    have e : pd n (.int a) = some (.int a) := by cases n <;> rfl
    simp [pds, e, pd_ints n r]
theorem deq_ints (n : Nat) : ∀ (a b : List Int), deqs (deq n) (a.map .int) (b.map .int) = some (decide (a = b))
  | [], [] => rfl
  | [], b :: r => rfl
  | a :: r, [] => rfl
  | a :: r, b :: q => by
    have e : deq n (.int a) (.int b) = some (a == b) := by cases n <;> rfl
    simp only [List.map_cons, deqs, e, deq_ints n r q]
    by_cases h : a = b
    · subst h; simp
    · simp [h]
theorem ne_ints (a b : List Int) : fNe (.lst (a.map .int)) (.lst (b.map .int)) = some (.bl (!decide (a = b))) := by
  unfold fNe
  simp [pd, pd_ints, deq, deq_ints]
theorem eq_ints (a b : List Int) : fEq (.lst (a.map .int)) (.lst (b.map .int)) = some (.bl (decide (a = b))) := by
  simp [fEq, dEq, deq, deq_ints]
theorem neT_ints (a b : List Int) : fNe (.tup (a.map .int)) (.tup (b.map .int)) = some (.bl (!decide (a = b))) := by
  unfold fNe
  simp [pd, pd_ints, deq, deq_ints]
theorem perm_erase {ns : List Int} {k : Nat} (h : k < ns.length) : (ns.eraseIdx k ++ [ns[k]]).Perm ns := by
  have e : ns = ns.take k ++ ns[k] :: ns.drop (k + 1) := by simp
  rw [List.eraseIdx_eq_take_drop_succ]
  conv => rhs; rw [e]
  rw [List.append_assoc]
  refine List.Perm.append_left _ ?_
  exact List.perm_append_singleton _ _
theorem erase_map : ∀ (l : List Int) (k : Nat), (l.map D.int).eraseIdx k = (l.eraseIdx k).map .int
  | [], _ => rfl
  | a :: r, 0 => rfl
  | a :: r, k + 1 => by simp [erase_map r k]
theorem bnd_of {α β : Type} {m : S → DL.R α} {k : α → S → DL.R β} {s s' : S} {a : α} (h : m s = .ok a s') : bnd m k s = k a s' := by unfold bnd; rw [h]
theorem seq_nx {a b : MS} {s s' : S} (h : a s = .ok .nx s') : mSeq a b s = b s' := by unfold mSeq; rw [h]
theorem seq_rt {a b : MS} {s s' : S} {d : D} (h : a s = .ok (.rt d) s') : mSeq a b s = .ok (.rt d) s' := by unfold mSeq; rw [h]
theorem seq_exc {a b : MS} {s s' : S} {x : Exc} (h : a s = .exc x s') : mSeq a b s = .exc x s' := by unfold mSeq; rw [h]
theorem shuf_loop (P0 I0 : Slot) : ∀ (n : Nat) (B : Nat) (st : List Ob) (rest found : List Int), rest.length = n → IsPen B st → B + n < 2 ^ 30 → found.length + n < 1000 →
    ∃ (out : List Int) (st' : List Ob), mWhile (mBl (mNeV 2 (mFz (mLst mNil)))) (mExpr (mApp 3 (mPopAt 2 (mCall f__law_draw (mCons (mVar 0) (mCons (mUn fLen (mLook 2)) mNil)))))) ⟨[.imm (.loc 0), I0, .own (rest.map .int), .own (found.map .int)], st⟩ = .ok .nx ⟨[.imm (.loc 0), I0, .own [], .own (out.map .int)], st'⟩ ∧ out.Perm (found ++ rest) ∧ IsPen (B + n) st' := by
  intro n
  induction n with
  | zero =>
    intro B st rest found hn hp hB hl
    have e : rest = [] := List.length_eq_zero_iff.mp hn
    subst e
    refine ⟨found, st, ?_, by simp, hp⟩
    have e2 : fNe (.lst []) (.lst []) = some (.bl false) := ne_ints [] []
    rw [mWhile_eq]
    simp [mBl, mNeV, mFz, mLst, mNil, bnd, DL.ret, cur, few, lift, e2, optB, isBl]
  | succ n ih =>
    intro B st rest found hn hp hB hl
    obtain ⟨k, st1, e, k0, k1, hp1⟩ := draw_spec (m := rest.length) hp (by omega) (by omega) (by omega)
    have hk : k.toNat < rest.length := by omega
    obtain ⟨out, st2, e2, pm, hp2⟩ := ih (B + 1) st1 (rest.eraseIdx k.toNat) (found ++ [rest[k.toNat]]) (by rw [List.length_eraseIdx_of_lt hk]; omega) hp1 (by omega) (by simp; omega)
    refine ⟨out, st2, ?_, ?_, hp2.mono (by omega)⟩
    · have hne : rest ≠ [] := by intro z; subst z; simp at hn
      have e3 : fNe (.lst (rest.map .int)) (.lst []) = some (.bl true) := by
        have := ne_ints rest []
        simpa [hne] using this
      have sx : seqIndex? k rest.length = some k.toNat := by
        unfold seqIndex?
        have : ¬ k < 0 := by omega
        simp [this]
        omega
      have ge : (rest.map D.int)[k.toNat]? = some (.int rest[k.toNat]) := by simp [hk]
      have fw : found.length + 1 ≤ 1000000 := by omega
      have b1 : (-9223372036854775808 : Int) ≤ k := by omega
      have b2 : k < 9223372036854775808 := by omega
      rw [mWhile_eq]
      have body : mExpr (mApp 3 (mPopAt 2 (mCall f__law_draw (mCons (mVar 0) (mCons (mUn fLen (mLook 2)) mNil))))) ⟨[.imm (.loc 0), I0, .own (rest.map .int), .own (found.map .int)], st⟩ = .ok .nx ⟨[.imm (.loc 0), I0, .own ((rest.eraseIdx k.toNat).map .int), .own ((found ++ [rest[k.toNat]]).map .int)], st1⟩ := by
        simp [mExpr, mApp, mPopAt, mCall, mCons, mNil, mVar, mUn, fLen, itD, mLook, cur, bnd, DL.ret, lift, e, outR, sx, ge, S.put, few, fw, b1, b2, erase_map]
      have cond : mBl (mNeV 2 (mFz (mLst mNil))) ⟨[.imm (.loc 0), I0, .own (rest.map .int), .own (found.map .int)], st⟩ = .ok true ⟨[.imm (.loc 0), I0, .own (rest.map .int), .own (found.map .int)], st⟩ := by
        simp [mBl, mNeV, mFz, mLst, mNil, bnd, DL.ret, cur, few, lift, e3, optB, isBl]
      rw [bnd_of cond]
      simp only [if_true, body]
      exact e2
    · refine pm.trans ?_
      rw [List.append_assoc]
      refine List.Perm.append_left _ ?_
      refine List.Perm.trans ?_ (perm_erase hk)
      exact (List.perm_append_comm)
theorem shuf_spec {B : Nat} {st : List Ob} {ns : List Int} (h : IsPen B st) (hB : B + ns.length < 2 ^ 30) (hl : ns.length < 1000) : ∃ (out : List Int) (st' : List Ob), f__law_shuffled [.loc 0, .lst (ns.map .int)] st = .ok (.lst (out.map .int)) st' ∧ out.Perm ns ∧ IsPen (B + ns.length) st' := by
  obtain ⟨out, st', e, pm, hp⟩ := shuf_loop .emp (.imm (.lst (ns.map .int))) ns.length B st ns [] rfl h hB (by simp; omega)
  refine ⟨out, st', ?_, by simpa using pm, hp⟩
  unfold f__law_shuffled fnM m__law_shuffled
  rw [seq_nx (s' := ⟨[.imm (.loc 0), .imm (.lst (ns.map .int)), .own (ns.map .int), .own (([] : List Int).map .int)], st⟩) (by simp [mParFF, mUnF, itD, mLook, cur, bnd, DL.ret, mLst, mNil, few, slots, S.put]), seq_nx e]
  simp [mRet, mVar, bnd, S.put, DL.ret, endR]
/-! ### comprehensions that change nothing -/
theorem wipe_put {s : S} {i : Nat} {x : Slot} (h : s.sl[i]? = some .emp) : wipeS (s.put i x) [i] = s := by
  have hi : i < s.sl.length := (List.getElem?_eq_some_iff.mp h).1
  have e : s.sl[i] = .emp := (List.getElem?_eq_some_iff.mp h).2
  obtain ⟨sl, st⟩ := s
  simp only [wipeS, S.put, List.set_set]
  congr 1
  simp only at e hi
  rw [← e]
  exact List.set_getElem_self hi
theorem wipe_emp {s : S} {i : Nat} (h : s.sl[i]? = some .emp) : wipeS s [i] = s := by
  have e := wipe_put (x := .emp) h
  have e2 : s.put i .emp = s := by
    have hi : i < s.sl.length := (List.getElem?_eq_some_iff.mp h).1
    have e : s.sl[i] = .emp := (List.getElem?_eq_some_iff.mp h).2
    obtain ⟨sl, st⟩ := s
    simp only [S.put]
    congr 1
    simp only at e hi
    rw [← e]
    exact List.set_getElem_self hi
  rw [e2] at e
  exact e
theorem noX_put {s : S} {i : Nat} {d : D} (h : noX s = true) : noX (s.put i (.imm d)) = true := by
  unfold noX S.put at *
  rw [List.all_eq_true] at h ⊢
  intro x hx
  rcases List.mem_or_eq_of_mem_set hx with z | z
  · exact h x z
  · rw [z]
theorem lcs_map {i : Nat} {m : ME} {f : D → D} {s : S} (he : s.sl[i]? = some .emp) (hx : noX s = true) : ∀ (ds acc : List D), (∀ d ∈ ds, m (s.put i (.imm d)) = .ok (f d) (s.put i (.imm d))) → few (acc.length + ds.length) → lcs (gNm i) mYes m [i] acc ds s = .ok (acc ++ ds.map f) s
  | [], acc, _, _ => by simp [lcs]
  | d :: ds, acc, h, hf => by
    have h1 := h d List.mem_cons_self
    have f1 : few (acc.length + 1) := by unfold few at hf ⊢; simp at hf; omega
    have ih := lcs_map he hx ds (acc ++ [f d]) (fun x hx' => h x (List.mem_cons_of_mem _ hx')) (by unfold few at hf ⊢; simp at hf ⊢; omega)
    unfold lcs
    have y : mYes (s.put i (.imm d)) = .ok true (s.put i (.imm d)) := rfl
    simp only [gNm, S.puts, y, if_true, h1, f1, noX_put hx, and_self, wipe_put he]
    show lcs (gNm i) mYes m [i] (acc ++ [f d]) ds s = _
    rw [ih]
    simp
theorem lc_map {i : Nat} {it : MA} {m : ME} {f : D → D} {s0 s : S} {ds : List D} (hit : it s0 = .ok ds s) (he : s.sl[i]? = some .emp) (hx : noX s = true) (h : ∀ d ∈ ds, m (s.put i (.imm d)) = .ok (f d) (s.put i (.imm d))) (hf : few ds.length) : mLc it (gNm i) mYes m [i] s0 = .ok (ds.map f) s := by
  unfold mLc
  rw [bnd_of hit]
  simp only [hx, if_true, wipe_emp he]
  rw [lcs_map he hx ds [] h (by simpa using hf)]
  simp
/-! ### things -/
def isI : D → Bool
  | .int _ => true
  | _ => false
def eOk (d : D) : Bool := (tyD d).isSome
/-- things that may be asked -/
def thing : D → Bool
  | .tup xs => xs.all eOk && decide (xs.length ≤ 100)
  | d => (tyD d).isSome
theorem whole_ty {d : D} (h : eOk d = true) : ∃ t, tyD d = some t ∧ (subT t "int" && !subT t "bool") = isI d := by
  cases d <;> first | exact ⟨_, rfl, (by decide +kernel : _ = _)⟩ | exact ⟨_, rfl, by simp [subT, isI]⟩ | (simp [eOk, tyD] at h)
theorem whole_eq {d : D} {st : List Ob} (h : eOk d = true) : f__law_whole [d] st = .ok (.bl (isI d)) st := by
  obtain ⟨t, e, k⟩ := whole_ty h
  rw [← k]
  cases hA : subT t "int" <;> cases hB : subT t "bool" <;> simp [f__law_whole, fnM, m__law_whole, mRet, mAnd, mNot, mUn, mLook, cur, bnd, DL.ret, lift, slots, fIsi, e, hA, hB, tru, optB, endR]
theorem ints_all : ∀ {xs : List D}, xs.all isI = true → ∃ ns : List Int, xs = ns.map .int
  | [], _ => ⟨[], rfl⟩
  | d :: ds, h => by
    rw [List.all_cons, Bool.and_eq_true] at h
    obtain ⟨ns, e⟩ := ints_all h.2
    cases d with
    | int i => exact ⟨i :: ns, by rw [e]; rfl⟩
    | _ => cases h.1
theorem bls_map (f : D → Bool) : ∀ xs : List D, blsD (xs.map fun d => .bl (f d)) = some (xs.map f)
  | [] => rfl
  | d :: ds => by simp [blsD, bls_map f ds]
theorem ints_q : ∀ ns : List Int, intsD? (ns.map .int) = some ns
  | [] => rfl
  | a :: r => by simp [intsD?, ints_q r]
def rgI (n : Nat) : List Int := (List.range n).map fun (i : Nat) => (i : Int)
theorem rg_eq (n : Nat) : intsD 0 n = (rgI n).map .int := by
  unfold intsD rgI
  simp
/-- a renumbering -/
def good : D → Bool
  | .tup xs => match intsD? xs with
    | some ns => decide (sortI ns = rgI ns.length)
    | none => false
  | _ => false
theorem good_tup (ns : List Int) : good (.tup (ns.map .int)) = decide (sortI ns = rgI ns.length) := by
  simp [good, ints_q]
theorem good_not {xs : List D} (h : xs.all isI = false) : good (.tup xs) = false := by
  unfold good
  have : intsD? xs = none := by
    induction xs with
    | nil => cases h
    | cons d ds ih =>
      rw [List.all_cons] at h
      cases d with
      | int i =>
        have h2 : ds.all isI = false := h
        simp [intsD?, ih h2]
      | _ => simp [intsD?]
  simp [this]
theorem sort_len (ns : List Int) : (sortI ns).length = ns.length := (sortI_perm ns).length_eq
abbrev badX (d : D) : Exc := ⟨"BadRenumbering", [("numbers", d)]⟩
theorem checked_eq {d : D} {st : List Ob} (h : thing d = true) : f_checked [d] st = if good d = true then .ok d st else .exc (badX d) st := by
  cases d with
  | tup xs =>
    simp only [thing, Bool.and_eq_true, decide_eq_true_eq] at h
    obtain ⟨h1, h2⟩ := h
    rw [List.all_eq_true] at h1
    have hl : few xs.length := by unfold few; omega
    have c1 : mLc (mIt (mVar 0)) (gNm 1) mYes (mAnd (mUn (fIsi "int") (mLook 1)) (mNot (mUn (fIsi "bool") (mLook 1)))) [1] ⟨[.imm (.tup xs), .emp], st⟩ = .ok (xs.map fun d => .bl (isI d)) ⟨[.imm (.tup xs), .emp], st⟩ := by
      refine lc_map (s := ⟨[.imm (.tup xs), .emp], st⟩) (by simp [mIt, mVar, bnd, itD]) rfl rfl (fun d hd => ?_) hl
      obtain ⟨t, e, k⟩ := whole_ty (h1 d hd)
      rw [← k]
      cases hA : subT t "int" <;> cases hB : subT t "bool" <;> simp [mAnd, mNot, mUn, mLook, cur, bnd, DL.ret, lift, S.put, fIsi, e, hA, hB, tru, optB]
    have a1 : fAll (.lst (xs.map fun d => .bl (isI d))) = some (.bl (xs.all isI)) := by
      simp only [fAll, bls_map, Option.map_some]
      rw [List.all_map]; rfl
    unfold f_checked fnM m_checked
    generalize hM1 : mLc (mIt (mVar 0)) (gNm 1) mYes (mAnd (mUn (fIsi "int") (mLook 1)) (mNot (mUn (fIsi "bool") (mLook 1)))) [1] = M1 at c1 ⊢
    generalize hL : (xs.map fun d => D.bl (isI d)) = L at c1 a1
    cases hA : xs.all isI with
    | false =>
      rw [good_not hA]
      rw [hA] at a1
      simp [mSeq, mIfS, mOrT, mNotT, mTru, mUn, fIsi, tyD, subT, mLook, cur, bnd, DL.ret, lift, slots, optB, tru, mFz, c1, a1, mRaise, mVar, endR]
    | true =>
      obtain ⟨ns, rfl⟩ := ints_all hA
      rw [hA] at a1
      rw [good_tup]
      simp only [List.length_map] at h2
      have c2 : mLc (mIt (mVar 0)) (gNm 1) mYes (mUn fInt (mLook 1)) [1] ⟨[.imm (.tup (ns.map .int)), .emp], st⟩ = .ok (ns.map .int) ⟨[.imm (.tup (ns.map .int)), .emp], st⟩ := by
        have := lc_map (f := id) (i := 1) (it := mIt (mVar 0)) (m := mUn fInt (mLook 1)) (s0 := ⟨[.imm (.tup (ns.map .int)), .emp], st⟩) (s := ⟨[.imm (.tup (ns.map .int)), .emp], st⟩) (ds := ns.map .int) (by simp [mIt, mVar, bnd, itD]) rfl rfl (fun d hd => by
          obtain ⟨n, _, rfl⟩ := List.mem_map.mp hd
          simp [mUn, mLook, cur, bnd, DL.ret, S.put, fInt, lift]) hl
        simpa using this
      generalize hM2 : mLc (mIt (mVar 0)) (gNm 1) mYes (mUn fInt (mLook 1)) [1] = M2 at c2 ⊢
      have r1 : (ns.length : Int) ≤ 1000000 := by omega
      have r2 : (-1000000 : Int) ≤ ns.length := by omega
      have q1 : fSortI (.lst (ns.map .int)) = some ((sortI ns).map .int) := by simp [fSortI, ints_q]
      by_cases hg : sortI ns = rgI ns.length
      · simp [mSeq, mIfS, mOrT, mNotT, mTru, mUn, mUnF, fIsi, tyD, subT, mLook, cur, bnd, DL.ret, lift, slots, optB, tru, mFz, c1, a1, mRet, mC, endR, mPass, mBin, c2, q1, fLen, itD, rgD, r1, r2, rg_eq, ne_ints, hg, mBl, isBl, mVar]
      · simp [mSeq, mIfS, mOrT, mNotT, mTru, mUn, mUnF, fIsi, tyD, subT, mLook, cur, bnd, DL.ret, lift, slots, optB, tru, mFz, c1, a1, mRet, mC, endR, mPass, mBin, c2, q1, fLen, itD, rgD, r1, r2, rg_eq, ne_ints, hg, mBl, isBl, mVar, mRaise]
  | loc n => simp [thing, tyD] at h
  | ins c fs => simp [thing, tyD] at h
  | kt xs => simp [thing, tyD] at h
  | _ => simp [f_checked, fnM, m_checked, mSeq, mIfS, mOrT, mNotT, mTru, mUn, fIsi, tyD, subT, mLook, cur, bnd, DL.ret, lift, slots, optB, tru, mRaise, mVar, endR, good]
theorem rgI_sorted (n : Nat) : (rgI n).Pairwise (· ≤ ·) := by
  unfold rgI
  rw [List.pairwise_map]
  exact List.pairwise_lt_range.imp fun h => by omega
theorem rgI_len (n : Nat) : (rgI n).length = n := by simp [rgI]
theorem rgI_mem {n : Nat} {x : Int} : x ∈ rgI n ↔ 0 ≤ x ∧ x < n := by
  unfold rgI
  rw [List.mem_map]
  constructor
  · rintro ⟨a, ha, rfl⟩
    rw [List.mem_range] at ha
    omega
  · intro h
    exact ⟨x.toNat, List.mem_range.mpr (by omega), by omega⟩
/-- a renumbering of size n -/
def Pm (n : Nat) (p : List Int) : Prop := p.Perm (rgI n)
theorem Pm.len {n : Nat} {p : List Int} (h : Pm n p) : p.length = n := h.length_eq.trans (rgI_len n)
theorem Pm.mem {n : Nat} {p : List Int} (h : Pm n p) {x : Int} (m : x ∈ p) : 0 ≤ x ∧ x < n := rgI_mem.mp (h.subset m)
theorem Pm.good {n : Nat} {p : List Int} (h : Pm n p) : good (.tup (p.map .int)) = true := by
  rw [good_tup, h.len]
  exact decide_eq_true (perm_sorted_eq ((sortI_perm p).trans h) (sortI_sorted p) (rgI_sorted n))
theorem good_pm {p : List Int} (h : good (.tup (p.map .int)) = true) : Pm p.length p := by
  rw [good_tup] at h
  have e := of_decide_eq_true h
  exact (sortI_perm p).symm.trans (e ▸ List.Perm.refl _)
theorem good_is {d : D} (h : good d = true) : ∃ p : List Int, d = .tup (p.map .int) ∧ Pm p.length p := by
  cases d with
  | tup xs =>
    cases hA : xs.all isI with
    | false => rw [good_not hA] at h; cases h
    | true =>
      obtain ⟨p, rfl⟩ := ints_all hA
      exact ⟨p, rfl, good_pm h⟩
  | _ => cases h
theorem thing_ints {p : List Int} (h : p.length ≤ 100) : thing (.tup (p.map .int)) = true := by
  simp [thing, eOk, tyD, h]
def gI (p : List Int) (q : Int) : Int := p[q.toNat]?.getD 0
theorem atI_int {p : List Int} {q : Int} (h0 : 0 ≤ q) (h1 : q < p.length) : atI (p.map D.int) q = some (.int (gI p q)) := by
  have hk : q.toNat < p.length := by omega
  unfold atI ixN gI
  rw [if_pos h0, if_pos (by simpa using h1)]
  simp [hk]
theorem after_eq {ps qs : List Int} {st : List Ob} (h : ∀ q ∈ qs, 0 ≤ q ∧ q < ps.length) (hl : qs.length ≤ 100) : f_after [.tup (ps.map .int), .tup (qs.map .int)] st = .ok (.tup ((qs.map (gI ps)).map .int)) st := by
  have c := lc_map (i := 2) (it := mIt (mVar 1)) (m := mIxN 0 (mVar 2)) (f := fun d => match d with | .int q => .int (gI ps q) | d => d) (s0 := ⟨[.imm (.tup (ps.map .int)), .imm (.tup (qs.map .int)), .emp], st⟩) (s := ⟨[.imm (.tup (ps.map .int)), .imm (.tup (qs.map .int)), .emp], st⟩) (ds := qs.map .int) (by simp [mIt, mVar, bnd, itD]) rfl rfl (fun d hd => by
    obtain ⟨q, hq, rfl⟩ := List.mem_map.mp hd
    obtain ⟨h0, h1⟩ := h q hq
    simp [mIxN, mIxV, mVar, cur, bnd, DL.ret, S.put, lift, ixD, atI_int h0 h1]) (by unfold few; simp; omega)
  have e : (qs.map D.int).map (fun d => match d with | .int q => D.int (gI ps q) | d => d) = (qs.map (gI ps)).map .int := by simp
  rw [e] at c
  unfold f_after fnM m_after
  generalize mLc (mIt (mVar 1)) (gNm 2) mYes (mIxN 0 (mVar 2)) [2] = M at c ⊢
  generalize (qs.map (gI ps)).map D.int = out at c ⊢
  simp [mRet, mUn, fTuple, itD, mFz, bnd, DL.ret, lift, slots, c, endR]
theorem sized_bad {d : D} {n : Int} {st : List Ob} (h : thing d = true) (hg : good d = false) : f_sized [d, .int n] st = .exc (badX d) st := by
  have e := checked_eq (st := st) h
  rw [hg] at e
  simp [f_sized, fnM, m_sized, mSeq, mIfS, mBl, mBin, mUn, mCall, mCons, mNil, mVar, bnd, DL.ret, slots, e, outR, endR]
theorem sized_ok {p : List Int} {n : Int} {st : List Ob} (hl : p.length ≤ 100) (hg : good (.tup (p.map .int)) = true) : f_sized [.tup (p.map .int), .int n] st = if (p.length : Int) = n then .ok (.tup (p.map .int)) st else .exc (badX (.tup (p.map .int))) st := by
  have e := checked_eq (st := st) (thing_ints hl)
  rw [hg] at e
  have e2 : fNe (.int p.length) (.int n) = some (.bl (!decide ((p.length : Int) = n))) := by
    unfold fNe
    simp [pd, deq, sc]
    rfl
  by_cases hn : (p.length : Int) = n
  · subst hn
    simp only [decide_true, Bool.not_true] at e2
    simp [f_sized, fnM, m_sized, mSeq, mIfS, mBl, mBin, mUn, mCall, mCons, mNil, mVar, bnd, DL.ret, slots, e, outR, endR, fLen, itD, e2, lift, optB, isBl, mPass, mRet]
  · simp [f_sized, fnM, m_sized, mSeq, mIfS, mBl, mBin, mUn, mCall, mCons, mNil, mVar, bnd, DL.ret, slots, e, outR, endR, fLen, itD, e2, hn, lift, optB, isBl, mPass, mRet, mRaise]
theorem comp_bad1 {a b : D} {st : List Ob} (h : thing a = true) (hg : good a = false) : f_compose [a, b] st = .exc (badX a) st := by
  have e := checked_eq (st := st) h
  rw [hg] at e
  simp [f_compose, fnM, m_compose, mSeq, mExpr, mCall, mCons, mNil, mVar, bnd, DL.ret, slots, e, outR, endR]
theorem comp_bad2 {p : List Int} {b : D} {st : List Ob} (hl : p.length ≤ 100) (hg : good (.tup (p.map .int)) = true) (h : f_sized [b, .int p.length] st = .exc (badX b) st) : f_compose [.tup (p.map .int), b] st = .exc (badX b) st := by
  have e := checked_eq (st := st) (thing_ints hl)
  rw [hg] at e
  simp [f_compose, fnM, m_compose, mSeq, mExpr, mCall, mCons, mNil, mVar, bnd, DL.ret, slots, e, outR, endR, mRet, mUn, fLen, itD, mLook, cur, lift, h]
theorem comp_ok {n : Nat} {p q : List Int} {st : List Ob} (hn : n ≤ 100) (hp : Pm n p) (hq : Pm n q) : f_compose [.tup (p.map .int), .tup (q.map .int)] st = .ok (.tup ((q.map (gI p)).map .int)) st := by
  have lp := hp.len
  have lq := hq.len
  have e := checked_eq (st := st) (thing_ints (p := p) (by omega))
  rw [hp.good] at e
  have e2 := sized_ok (p := q) (n := p.length) (st := st) (by omega) hq.good
  rw [if_pos (by omega)] at e2
  have e3 := after_eq (ps := p) (qs := q) (st := st) (fun x hx => by have := hq.mem hx; omega) (by omega)
  generalize (q.map (gI p)).map D.int = out at e3 ⊢
  simp [f_compose, fnM, m_compose, mSeq, mExpr, mCall, mCons, mNil, mVar, bnd, DL.ret, slots, e, outR, endR, mRet, mUn, fLen, itD, mLook, cur, lift, e2, e3]
theorem map_gI_id (p : List Int) : (rgI p.length).map (gI p) = p := by
  unfold rgI gI
  rw [List.map_map]
  refine List.ext_getElem (by simp) fun i h1 h2 => ?_
  simp [List.getElem?_eq_getElem h2]
theorem Pm.comp {n : Nat} {p q : List Int} (hp : Pm n p) (hq : Pm n q) : Pm n (q.map (gI p)) := by
  have h1 : (q.map (gI p)).Perm ((rgI n).map (gI p)) := hq.map _
  rw [← hp.len, map_gI_id] at h1
  exact h1.trans hp
/-! ### back -/
def invL : List Int → Nat → List Int → List Int
  | pl, _, [] => pl
  | pl, k, x :: xs => invL (pl.set x.toNat k) (k + 1) xs
theorem set_map (l : List Int) (i : Nat) (x : Int) : (l.map D.int).set i (.int x) = (l.set i x).map .int := by
  rw [List.map_set]
theorem back_loop (st : List Ob) (P0 : Slot) : ∀ (xs pl : List Int) (k : Nat) (a b : Slot), (∀ x ∈ xs, 0 ≤ x ∧ x < pl.length) →
    ∃ a' b', fo (gTp 2 (gsCons (gNm 2) (gsCons (gNm 3) gsNil))) (mSetIx 1 (mVar 3) (mVar 2)) (((xs.map D.int).zipIdx k).map fun p => .tup [.int (p.2 : Nat), p.1]) ⟨[P0, .own (pl.map .int), a, b], st⟩ = .ok .nx ⟨[P0, .own ((invL pl k xs).map .int), a', b'], st⟩
  | [], pl, k, a, b, _ => ⟨a, b, rfl⟩
  | x :: xs, pl, k, a, b, h => by
    obtain ⟨h0, h1⟩ := h x List.mem_cons_self
    obtain ⟨a', b', ih⟩ := back_loop st P0 xs (pl.set x.toNat k) (k + 1) (.imm (.int k)) (.imm (.int x)) (fun y hy => by rw [List.length_set]; exact h y (List.mem_cons_of_mem _ hy))
    refine ⟨a', b', ?_⟩
    have ix : ixN (pl.map D.int).length x = some x.toNat := by
      unfold ixN
      rw [if_pos h0, if_pos (by simpa using h1)]
    have bd : mSetIx 1 (mVar 3) (mVar 2) ⟨[P0, .own (pl.map .int), .imm (.int k), .imm (.int x)], st⟩ = .ok .nx ⟨[P0, .own ((pl.set x.toNat k).map .int), .imm (.int k), .imm (.int x)], st⟩ := by
      simp only [List.length_map] at ix
      simp [mSetIx, mVar, bnd, DL.ret, S.put, ix]
    simp only [List.map_cons, List.zipIdx_cons, fo, gTp, gsCons, gsNil, gNm, List.length_cons, List.length_nil, if_true, List.cons_append, List.nil_append, S.puts, S.put, List.set_cons_succ, List.set_cons_zero, bd]
    exact ih
theorem rp0 {n : Nat} (hl : n ≤ 100) : lRepL (.lst [.int 0]) (.int n) = some ((List.replicate n (0 : Int)).map .int) := by
  simp only [lRepL]
  rw [if_pos ⟨by omega, by omega, by unfold few; simp; omega⟩]
  simp [List.flatten_replicate_singleton]
theorem back_gen {lr : D → D → Option (List D)} {d k : D} {z ds out : List D} {a' b' : Slot} {st : List Ob} {fr : MG} {bd : MS} (hd : fLen d = some k) (rp : lr (.lst [.int 0]) k = some z) (hi : itD d = some ds) (e : fo fr bd (enumD ds) ⟨[.imm d, .own z, .emp, .emp], st⟩ = .ok .nx ⟨[.imm d, .own out, a', b'], st⟩) :
    fnM 4 (mSeq (mOwn 1 (mBinF lr (mFz (mLst (mCons (mC (.int 0)) mNil))) (mUn fLen (mLook 0)))) (mSeq (mFor (mEnum (mVar 0)) fr bd) (mRet (mUn fTuple (mLook 1))))) [d] st = .ok (.tup out) st := by
  have h1 : mOwn 1 (mBinF lr (mFz (mLst (mCons (mC (.int 0)) mNil))) (mUn fLen (mLook 0))) ⟨slots 4 [d], st⟩ = .ok .nx ⟨[.imm d, .own z, .emp, .emp], st⟩ := by
    have f1 : few 1 := by decide
    simp [mOwn, mBinF, mFz, mLst, mCons, mC, mNil, mUn, mLook, cur, bnd, DL.ret, f1, lift, slots, hd, rp, S.put]
  have h2 : mFor (mEnum (mVar 0)) fr bd ⟨[.imm d, .own z, .emp, .emp], st⟩ = .ok .nx ⟨[.imm d, .own out, a', b'], st⟩ := by
    unfold mFor
    rw [bnd_of (a := enumD ds) (s' := ⟨[.imm d, .own z, .emp, .emp], st⟩) (by simp [mEnum, mVar, bnd, hi])]
    exact e
  unfold fnM
  rw [seq_nx h1, seq_nx h2]
  simp [mRet, mUn, fTuple, itD, mLook, cur, bnd, DL.ret, lift, endR]
theorem back_eq {p : List Int} {st : List Ob} (h : ∀ x ∈ p, 0 ≤ x ∧ x < p.length) (hl : p.length ≤ 100) : f_back [.tup (p.map .int)] st = .ok (.tup ((invL (List.replicate p.length 0) 0 p).map .int)) st := by
  obtain ⟨a', b', e⟩ := back_loop st (.imm (.tup (p.map .int))) p (List.replicate p.length 0) 0 .emp .emp (by simpa using h)
  have hd : fLen (.tup (p.map .int)) = some (.int p.length) := by simp [fLen, itD]
  exact back_gen hd (rp0 hl) rfl e
theorem inv_gen {fb fc : Fn} {d d2 : D} {st : List Ob} (e : fc [d] st = .ok d st) (e2 : fb [d] st = .ok d2 st) : fnM 1 (mRet (mCall fb (mCons (mCall fc (mCons (mVar 0) mNil)) mNil))) [d] st = .ok d2 st := by
  simp [fnM, mRet, mCall, mCons, mNil, mVar, bnd, DL.ret, slots, e, outR, e2, endR]
theorem inv_genX {fb fc : Fn} {d : D} {x : Exc} {st : List Ob} (e : fc [d] st = .exc x st) : fnM 1 (mRet (mCall fb (mCons (mCall fc (mCons (mVar 0) mNil)) mNil))) [d] st = .exc x st := by
  simp [fnM, mRet, mCall, mCons, mNil, mVar, bnd, DL.ret, slots, e, outR, endR]
theorem inv_ok {n : Nat} {p : List Int} {st : List Ob} (hn : n ≤ 100) (hp : Pm n p) : f_inverse [.tup (p.map .int)] st = .ok (.tup ((invL (List.replicate n 0) 0 p).map .int)) st := by
  have lp := hp.len
  have e := checked_eq (st := st) (thing_ints (p := p) (by omega))
  rw [hp.good, if_pos rfl] at e
  have e2 := back_eq (p := p) (st := st) (fun x hx => by have := hp.mem hx; omega) (by omega)
  rw [lp] at e2
  exact inv_gen e e2
theorem inv_bad {d : D} {st : List Ob} (h : thing d = true) (hg : good d = false) : f_inverse [d] st = .exc (badX d) st := by
  have e := checked_eq (st := st) h
  rw [hg, if_neg (by decide)] at e
  exact inv_genX e
/-! all renumberings of fewer than five -/
def lists (vals : List Int) : Nat → List (List Int)
  | 0 => [[]]
  | n + 1 => vals.flatMap fun a => (lists vals n).map (a :: ·)
theorem mem_lists {vals : List Int} : ∀ {n : Nat} {p : List Int}, p.length = n → (∀ x ∈ p, x ∈ vals) → p ∈ lists vals n
  | 0, p, h, _ => by rw [List.length_eq_zero_iff.mp h]; exact List.mem_singleton.mpr rfl
  | n + 1, [], h, _ => by cases h
  | n + 1, a :: r, h, hv => by
    unfold lists
    rw [List.mem_flatMap]
    exact ⟨a, hv a List.mem_cons_self, List.mem_map.mpr ⟨r, mem_lists (by simpa using h) (fun x hx => hv x (List.mem_cons_of_mem _ hx)), rfl⟩⟩
def chk (n : Nat) (p : List Int) : Bool :=
  let q := invL (List.replicate n 0) 0 p
  q.isPerm (rgI n) && (decide (q.map (gI p) = rgI n) && (decide (p.map (gI q) = rgI n) && (rgI n).all fun i => decide (gI q (gI p i) = i)))
theorem chk_all : ((List.range 5).all fun n => (lists (rgI n) n).all fun p => !(p.isPerm (rgI n)) || chk n p) = true := by decide +kernel
theorem chk_pm {n : Nat} {p : List Int} (hn : n < 5) (hp : Pm n p) : Pm n (invL (List.replicate n 0) 0 p) ∧ (invL (List.replicate n 0) 0 p).map (gI p) = rgI n ∧ p.map (gI (invL (List.replicate n 0) 0 p)) = rgI n ∧ ∀ i ∈ rgI n, gI (invL (List.replicate n 0) 0 p) (gI p i) = i := by
  have h := chk_all
  rw [List.all_eq_true] at h
  have h1 := h n (List.mem_range.mpr hn)
  rw [List.all_eq_true] at h1
  have h2 := h1 p (mem_lists hp.len fun x hx => hp.subset hx)
  have h3 : p.isPerm (rgI n) = true := List.isPerm_iff.mpr hp
  rw [h3] at h2
  have h4 : chk n p = true := by simpa using h2
  unfold chk at h4
  simp only [Bool.and_eq_true, decide_eq_true_eq] at h4
  obtain ⟨a1, a2, a3, a4⟩ := h4
  refine ⟨List.isPerm_iff.mp a1, a2, a3, fun i hi => ?_⟩
  rw [List.all_eq_true] at a4
  exact of_decide_eq_true (a4 i hi)
end LC

namespace DL
open PySem PySem.Spec PySem.W
/-! ### operators by a class's own methods, at the level of the model -/
/-- the class at C has the function at f under the name -/
structure Own (K : Frag) (C f : Addr) (name : Str) : Prop where
  cl : ∃ cd rest, clsIn K C = some cd ∧ cd.mro = .ref C :: rest
  at_ : findIn K (.ref C) name = some (some (.ref f))
  ty : typeIn K (.ref f) = some (.type "function")
section
variable {K : Frag} {M : Model} {h : Heap} {C f : Addr}
theorem fills_own {nm : String} (X : K.In h) (o : Own K C f (PySem.dunder nm)) : Looks M h (fillsNumberSlot (.ref C) nm) true := by
  obtain ⟨cd, rest, hc, hm⟩ := o.cl
  unfold fillsNumberSlot
  refine Looks.andThen (a := cd.mro) ((looks_clsIn X hc).andThen .now) ?_
  rw [hm, List.anyM]
  refine Looks.andThen (a := true) ?_ .now
  show Looks M h (List.anyM _ [PySem.dunder nm, PySem.dunderR nm]) true
  rw [List.anyM]
  refine Looks.andThen (a := true) ?_ .now
  exact (looks_findIn X o.at_).andThen .now
theorem fillsI_own {nm : String} {b : Bool} (X : K.In h) (o : Own K C f (PySem.dunderI nm)) : Looks M h (fillsInplaceSlot (.ref C) nm b) true := by
  obtain ⟨cd, rest, hc, hm⟩ := o.cl
  unfold fillsInplaceSlot
  refine Looks.andThen (a := cd.mro) ((looks_clsIn X hc).andThen .now) ?_
  rw [hm, List.anyM]
  refine Looks.andThen (a := true) ?_ .now
  exact (looks_findIn X o.at_).andThen .now
theorem special_own {name : Str} {a : Addr} {oa : Obj} {od : Option Obj} (X : K.In h) (J : InstAt h a oa C od) (o : Own K C f name) : Looks M h (specialOf (.ref a) name) (some (.ref f)) := by
  unfold specialOf
  exact J.type.andThen (looks_findIn X o.at_)
end
section
variable {prog : Program} {w : World} {A : Around} {E : Value → Shared → Prop} {s : Shared} {K : Frag} {C f a b : Addr} {oa ob : Obj} {da db : Option Obj}
theorem callSpecial_own {name : Str} {args : List Value} {Q : Option Value → Shared → Prop} (X : K.In s.heap) (J : InstAt s.heap a oa C da) (o : Own K C f name)
    (hcall : wpAny (model prog w) A (call (.ref f) (.ref a :: args)) (fun v s' => Q (some v) s') E s) : wpAny (model prog w) A (callSpecial? (.ref a) name args) Q E s := by
  unfold callSpecial?
  refine wpAny_bind ((special_own X J o).here ?_)
  refine wpAny_holding (wpAny_bind ((bind_fn X (.ref a) o.ty).here ?_))
  exact wpAny_bind (wpAny_mono hcall (fun v s' q => wpAny_pure q) fun _ _ e => e)
theorem tryMethod_own {name : Str} {other : Value} {Q : Option Value → Shared → Prop} (X : K.In s.heap) (J : InstAt s.heap a oa C da) (o : Own K C f name)
    (hcall : wpAny (model prog w) A (call (.ref f) [.ref a, other]) (fun v s' => v ≠ .notImplemented ∧ Q (some v) s') E s) : wpAny (model prog w) A (tryMethod (.ref a) name other) Q E s := by
  unfold tryMethod
  refine wpAny_bind (callSpecial_own X J o (wpAny_mono hcall (fun v s' q => ?_) fun _ _ e => e))
  obtain ⟨n, q⟩ := q
  split
  · rename_i h; cases h; exact absurd rfl n
  · rename_i h; cases h
  · rename_i v2 h2 h3
    cases h3
    exact wpAny_pure q
/-- a op b, both of the class -/
theorem bin_own {op : Operator} {Q : Value → Shared → Prop} (X : K.In s.heap) (J : InstAt s.heap a oa C da) (J2 : InstAt s.heap b ob C db) (o : Own K C f (PySem.dunder op.info.2))
    (hcall : wpAny (model prog w) A (call (.ref f) [.ref a, .ref b]) (fun v s' => v ≠ .notImplemented ∧ Q v s') E s) : wpAny (model prog w) A (binaryOp op (.ref a) (.ref b)) Q E s := by
  unfold binaryOp
  refine wpAny_holding ?_
  generalize hop : op.info = oi at o ⊢
  obtain ⟨sym, nm⟩ := oi
  dsimp only at o ⊢
  refine wpAny_bind ?_
  unfold binaryOp1
  refine wpAny_bind (J.type.here (wpAny_bind (J2.type.here (wpAny_bind ((fills_own X o).here ?_)))))
  simp only [beq_self_eq_true, if_true, Bool.and_false, Bool.false_eq_true, if_false, pure_bind, Bool.false_and, Bool.and_self, Bool.true_and]
  refine wpAny_bind (tryMethod_own X J o (wpAny_mono hcall (fun v s' q => ⟨q.1, ?_⟩) fun _ _ e => e))
  exact wpAny_pure (wpAny_pure q.2)
/-- a op= b, the class has the in-place method -/
theorem inp_own {op : Operator} {v2 : Value} {Q : Value → Shared → Prop} (X : K.In s.heap) (J : InstAt s.heap a oa C da) (o : Own K C f (PySem.dunderI op.info.2))
    (hcall : wpAny (model prog w) A (call (.ref f) [.ref a, v2]) (fun v s' => v ≠ .notImplemented ∧ Q v s') E s) : wpAny (model prog w) A (inplaceOp op (.ref a) v2) Q E s := by
  unfold inplaceOp
  refine wpAny_holding ?_
  dsimp only
  refine wpAny_bind (J.type.here (wpAny_bind ((fillsI_own X o).here ?_)))
  simp only [if_true]
  refine wpAny_bind (tryMethod_own X J o (wpAny_mono hcall (fun v s' q => ⟨q.1, ?_⟩) fun _ _ e => e))
  exact wpAny_bind (wpAny_rule (wpAny_pure q.2))
/-- ~a, -a -/
theorem un_own {op : UnaryOp} {nm : Str} {Q : Value → Shared → Prop} (hop : (op = .Invert ∧ nm = "__invert__") ∨ (op = .USub ∧ nm = "__neg__")) (X : K.In s.heap) (J : InstAt s.heap a oa C da) (o : Own K C f nm)
    (hcall : wpAny (model prog w) A (call (.ref f) [.ref a]) Q E s) : wpAny (model prog w) A (unaryOp op (.ref a)) Q E s := by
  rcases hop with ⟨rfl, rfl⟩ | ⟨rfl, rfl⟩
  · unfold unaryOp
    refine wpAny_holding ?_
    dsimp only
    rw [if_neg (by decide)]
    exact wpAny_bind (callSpecial_own X J o (wpAny_mono hcall (fun v s' q => wpAny_pure q) fun _ _ e => e))
  · unfold unaryOp
    refine wpAny_holding ?_
    dsimp only
    rw [if_neg (by decide)]
    exact wpAny_bind (callSpecial_own X J o (wpAny_mono hcall (fun v s' q => wpAny_pure q) fun _ _ e => e))
end
end DL

namespace DL
open PySem PySem.Spec L2
/-! ### instances as cells -/
/-- a mirror that never comes to an end: nothing is to be shown of the text -/
theorem je_stk {X : Cx} {W : WX} {e : Expr} : JE X W e stk := ⟨fun _ _ _ _ _ _ h => by obtain ⟨_, _, _, _, h⟩ := h; exact h.elim⟩
theorem js_stk {X : Cx} {W : WX} {st : Stmt} : JS X W st stk := ⟨fun _ _ _ _ _ _ h => by obtain ⟨_, _, _, _, h⟩ := h; exact h.elim⟩
def putFD (f : Str) (z : D) : List (Str × D) → List (Str × D)
  | [] => [(f, z)]
  | (g, x) :: r => if g = f then (g, z) :: r else (g, x) :: putFD f z r
theorem repF_put {K : PySem.W.Frag} {G : Gh} {f : Str} {v : V} {z : D} (p : Rep K G v z) : ∀ {fvs : List (Str × V)} {fs : List (Str × D)}, RepF K G fvs fs → RepF K G (putF f v fvs) (putFD f z fs)
  | _, _, .nil => .cons p .nil
  | _, _, .cons (f := g) q r => by
    unfold putF putFD
    by_cases e : g = f
    · rw [if_pos e, if_pos e]; exact .cons p r
    · rw [if_neg e, if_neg e]; exact .cons q (repF_put p r)
theorem repF_len {K : PySem.W.Frag} {G : Gh} : ∀ {fvs : List (Str × V)} {fs : List (Str × D)}, RepF K G fvs fs → fvs.length = fs.length
  | _, _, .nil => rfl
  | _, _, .cons _ r => congrArg Nat.succ (repF_len r)
/-- the fields of the instance of class c at a cell -/
def insAt (c : Str) (s : S) : D → Option (Nat × List (Str × D))
  | .loc n => (match s.st[n]? with
    | some (.ins c' fs) => if c' = c then some (n, fs) else none
    | _ => none)
  | _ => none
theorem insAt_rel {K : PySem.W.Frag} {pn : List (Addr × Obj)} {w : Wd} {c : Str} {v : V} {d : D} {n : Nat} {fs : List (Str × D)} (r : Rel K pn w) (p : Rep K w.G v d) (h : insAt c w.s d = some (n, fs)) : ∃ a dx fvs, v = .ref a ∧ w.G.ad[n]? = some a ∧ w.H a = some (.ins (He.ga K c) dx fvs) ∧ RepF K w.G fvs fs ∧ w.s.st[n]? = some (.ins c fs) ∧ d = .loc n := by
  unfold insAt at h
  split at h
  · rename_i m
    split at h
    · rename_i c' fs' hs
      split at h
      · rename_i e
        cases h
        subst e
        cases p with
        | loc ha =>
          obtain ⟨dx, fvs, e1, e2⟩ := r.st.at_ _ _ _ ha hs
          exact ⟨_, dx, fvs, rfl, ha, e1, e2, hs, rfl⟩
      · cases h
    · cases h
  · cases h
def mFld (c f : Str) (m : ME) : ME := bnd m fun d s => match insAt c s d with
  | some (_, fs) => lift (fs.lookup f) s
  | none => .stuck
def mSetF (c f : Str) (m mv : ME) : MS := bnd mv fun z => bnd m fun d s => match insAt c s d with
  | some (n, fs) => if fs.length < 1000 then .ok .nx { s with st := s.st.set n (.ins c (putFD f z fs)) } else .stuck
  | none => .stuck
section
variable {X : Cx} {W : WX} {e o v : Expr} {m mv : ME} {c f : Str} {pos pos' : Pos}
theorem je_fld (hc : Cls X.K (He.ga X.K c)) (hn : NoAttr X.K (He.ga X.K c) f) (h : JE X W e m) (hb : attributeBase e f X.env (eval e X.env) = eval e X.env := by rfl) : JE X W (.Attribute e f pos) (mFld c f m) := by
  refine PE.imp (pe_fld h hb) fun σ H Q h => ?_
  obtain ⟨w, rfl, rfl, r, h⟩ := h
  refine run r h fun d s' G' v H' g r' p h' => ?_
  cases hi : insAt c s' d with
  | none => rw [hi] at h'; exact h'.elim
  | some q =>
    obtain ⟨n, fs⟩ := q
    rw [hi] at h'
    obtain ⟨a, dx, fvs, rfl, _, e1, e2, _⟩ := insAt_rel (w := { w with G := G', H := H', s := s' }) r' p hi
    cases hl : fs.lookup f with
    | none => simp only [hl] at h'; exact h'.elim
    | some z =>
      simp only [hl] at h'
      obtain ⟨u, h1, h2⟩ := repF_get e2 hl
      exact ⟨a, _, dx, fvs, u, rfl, e1, hc, hn, h1, h' _ _ _ (.refl _) r' h2⟩
theorem js_setF (hc : Cls X.K (He.ga X.K c)) (hn : NoAttr X.K (He.ga X.K c) f) (ho : JE X W o m) (hv : JE X W v mv) (hs : swapsWith v (some (.Attribute o f pos')) pos.line X.env = pure false := by rfl) : JS X W (.Assign [.Attribute o f pos'] v pos) (mSetF c f m mv) := by
  refine PS.imp (ps_fld ho hv hs) fun D σ H h => ?_
  obtain ⟨w, rfl, rfl, r, h⟩ := h
  refine runS r h fun z s1 G1 y1 H1 g1 r1 p1 h1 => ?_
  refine runS r1 h1 fun d s' G' y H' g r' p h' => ?_
  cases hi : insAt c s' d with
  | none => rw [hi] at h'; exact h'.elim
  | some q =>
    obtain ⟨n, fs⟩ := q
    rw [hi] at h'
    dsimp only at h'
    split at h'
    · rename_i hl
      obtain ⟨a, dx, fvs, rfl, ha, e1, e2, _⟩ := insAt_rel (w := { w with G := G', H := H', s := s' }) r' p hi
      refine ⟨a, _, dx, fvs, rfl, e1, hc, hn, by rw [repF_len e2]; exact hl, ?_⟩
      exact h' _ _ _ (.refl _) (r'.cell ha fun H2 hH => ⟨dx, _, hH, repF_put (p1.mono g) e2⟩)
    · exact h'.elim
end
/-! ### C(..) -/
section
variable {X : Cx} {CX : CXT} {k : Nat} {f C : Addr} {fd : FuncData} {ps : List Str} {sp : Sp} {dvs : List V} {ds : List Value} {E : L2.St → XK} {x : Str} {p pos : Pos} {e : Expr} {es : List Expr} {t : TA}
theorem run_makeA {pins : List (Addr × Obj)} {σ : L2.St} {H : Hp} {s : Shared} {Q : VK} {us : List Value} {vs : List V} (M : Mk X.K C f) (F : FnOk X.prog X.w X.K X.mg X.base CX k f fd ps sp) (hr : Room (k + 1) X.A) (hb : Binds X.K fd ps ds) (hd : Vals dvs ds) (hx : PassesAt CX X σ (E σ)) (J : Inv X pins σ H s) (r : Vals vs us)
    (h : ∀ y dy, H y = none → H dy = none → dy ≠ y → sp (.ref y :: (vs ++ dvs)) (upd (upd H dy (.own y)) y (.ins C dy [])) (fun v H2 => v = .non ∧ Q (.ref y) H2) (E σ)) : wpAny (model X.prog X.w) X.A (call (.ref C) us) (EP X pins σ Q) X.xe s := by
  have here := h (s.heap.objs.size + 1) s.heap.objs.size (J.hok.fresh (Nat.le_succ _)) (J.hok.fresh (Nat.le_refl _)) (Nat.ne_of_lt (Nat.lt_succ_self _))
  have J2 := Inv.made (C := C) J
  have all : Vals (V.ref (s.heap.objs.size + 1) :: (vs ++ dvs)) (Value.ref (s.heap.objs.size + 1) :: (us ++ ds)) := .cons rfl (r.append hd)
  have len : (Value.ref (s.heap.objs.size + 1) :: us ++ ds).length = ps.length := (F.len _ _ _ _ here ▸ all.length).symm
  have body := F.run _ X.stack _ _ ⟨Value.ref (s.heap.objs.size + 1) :: us, []⟩ (Value.ref (s.heap.objs.size + 1) :: (us ++ ds)) _ _ (E σ) (hr.make C us []) (J2.env0.make C us []) (hb _ (Value.ref (s.heap.objs.size + 1) :: us) J2.kIn len) all here
  refine wpAny_call (make_map (f := f) J.kIn M.makes M.init (beq_iff_eq.mp M.fn) (codeAny_mono body fun r s' q => ?_))
  cases r with
  | error e => exact hx pins _ _ e s' J2 q
  | ok fl =>
    cases fl with
    | ret u =>
      obtain ⟨v, H', J3, rv, ev, q3⟩ := J2.after q
      subst ev
      exact ⟨rv, ⟨V.ref (s.heap.objs.size + 1), H', J3, rfl, q3⟩⟩
    | next => exact q.elim
    | brk => exact q.elim
    | cont => exact q.elim
def tMakeA (C : Addr) (sp : Sp) (dvs : List V) (E : L2.St → XK) (t : TA) : TE := fun σ H Q => t σ H fun vs H1 => ∀ y dy, H1 y = none → H1 dy = none → dy ≠ y →
  sp (.ref y :: (vs ++ dvs)) (upd (upd H1 dy (.own y)) y (.ins C dy [])) (fun v H2 => v = .non ∧ Q (.ref y) H2) (E σ)
theorem pe_makeA (M : Mk X.K C f) (F : FnOk X.prog X.w X.K X.mg X.base CX k f fd ps sp) (hr : Room (k + 1) X.A) (hg : Gl X x) (hm : X.mg x = some (.ref C)) (hb : Binds X.K fd ps ds) (hd : Vals dvs ds) (hx : ∀ σ, PassesAt CX X σ (E σ))
    (ha : PA X (e :: es) t) (hdb : (x == ("__debug__" : Str)) = false := by decide) (he : starEach (e :: es) X.env = (false, eval e X.env) :: starEach es X.env := by rfl) (hpl : (backTo pos (starEach es X.env)).any (·.1) = false := by rfl) :
    PE X (.Call (.Name x p) (e :: es) [] pos) (tMakeA C sp dvs E t) := by
  refine ⟨fun pins s σ H Q J h => wpAny_Call_Name_kw (ld_glob J hg hm ?_ hdb)⟩
  refine PySem.W.callWith_K (h₀ := X.base) J.ok.mod.kin M.kp (thn (ha.run pos pins s σ H _ J h) fun us s1 hh => ?_) he hpl
  obtain ⟨vs, H1, J1, r, q⟩ := hh
  exact ⟨J1.kIn, run_makeA M F hr hb hd (hx σ) J1 r q⟩
end
def mMake (c : Str) (fi : Fn) (m : MA) : ME := bnd m fun ds s => match fi (.loc s.st.length :: ds) (s.st ++ [.ins c []]) with
  | .ok .non st' => .ok (.loc s.st.length) { s with st := st' }
  | .ok _ _ => .stuck
  | .exc x st' => .exc x { s with st := st' }
  | .stuck => .stuck
section
variable {X : Cx} {W : WX} {k : Nat} {f : Addr} {fd : FuncData} {ps : List Str} {fi : Fn} {x c : Str} {p pos : Pos} {e : Expr} {es : List Expr} {m : MA}
theorem je_make (M : Mk X.K (He.ga X.K c) f) (F : FnOk X.prog X.w X.K X.mg X.base (L2.CX X.prog X.w) k f fd ps (spF X.K ps.length fi)) (hr : Room (k + 1) X.A) (tk : Takes X W) (hg : Gl X c) (hm : X.mg c = some (.ref (He.ga X.K c))) (hb : Binds X.K fd ps [])
    (ha : JA X W (e :: es) m) (hl : (e :: es).length + 1 = ps.length := by rfl) (hdb : (c == ("__debug__" : Str)) = false := by decide) (he : starEach (e :: es) X.env = (false, eval e X.env) :: starEach es X.env := by rfl) (hpl : (backTo pos (starEach es X.env)).any (·.1) = false := by rfl) :
    JE X W (.Call (.Name c p) (e :: es) [] pos) (mMake c fi m) := by
  refine PE.imp (pe_makeA (E := WE W) M F hr hg hm hb Paired.nil (fun σ => passAt tk σ) ha.pa hdb he hpl) fun σ H Q h => ?_
  obtain ⟨w, rfl, rfl, r, h⟩ := h
  refine run' r h fun as s' G' vs H' hm2 g r' q h' => ?_
  intro y dy hy hdy hne
  rw [List.append_nil]
  have r1 := r'.alloc (o := .own y) hdy
  have hy1 : upd H' dy (.own y) y = none := (upd_ne (Ne.symm hne)).trans hy
  obtain ⟨g2, r2, p2⟩ := Rel.newCell (w := { w with G := G', H := upd H' dy (.own y), s := s' }) (o := .ins c []) (u := .ins (He.ga X.K c) dy []) r1 hy1 (fun G3 H3 g3 hH => ⟨dy, [], hH, .nil⟩)
  refine call_run (W := W) (fn := fi) (w := { w with G := { G' with ad := G'.ad ++ [y] }, H := upd (upd H' dy (.own y)) y (.ins (He.ga X.K c) dy []), s := { s' with st := s'.st ++ [.ins c []] } }) (as := .loc s'.st.length :: as) r2 (.cons p2 (q.mono g2)) (by rw [List.length_cons, q.length, ha.len _ _ _ hm2, ← hl]) ?_
  dsimp only
  cases hf : fi (.loc s'.st.length :: as) (s'.st ++ [.ins c []]) with
  | ok d st' =>
    rw [hf] at h'
    intro G3 v H3 g3 r3 p3
    cases d with
    | non =>
      cases p3
      exact ⟨rfl, h' G3 _ H3 (g2.trans g3) r3 (p2.mono g3)⟩
    | _ => exact h'.elim
  | exc y2 st' =>
    rw [hf] at h'
    exact fun G3 c3 d3 H3 g3 r3 p3 => h' G3 c3 d3 H3 (g2.trans g3) r3 p3
  | stuck =>
    rw [hf] at h'
    exact h'.elim
end
end DL

namespace DL
open PySem PySem.Spec L2
theorem relV_ne {v : V} {u : Value} (r : RelV v u) : u ≠ .notImplemented := by
  cases v <;> first | (obtain ⟨t, rfl⟩ := r; exact nofun) | (cases r; exact nofun)
section
variable {X : Cx} {CX : CXT} {k : Nat} {f C : Addr} {fd : FuncData} {ps : List Str} {sp : Sp} {E : L2.St → XK} {a b : Expr} {ta tb : TE} {pos : Pos}
theorem inst_of {pins : List (Addr × Obj)} {σ : L2.St} {H : Hp} {s : Shared} {y dx : Addr} {fs : List (Str × V)} (J : Inv X pins σ H s) (e : H y = some (.ins C dx fs)) : ∃ od, PySem.W.InstAt s.heap y (PySem.W.instObj C dx) C (some od) := by
  obtain ⟨mA, O, _⟩ := ins_get J.hok e
  obtain ⟨od, h, _⟩ := O.look
  exact ⟨od, h⟩
/-- a op b by the class's own method -/
def tOpA (C : Addr) (sp : Sp) (E : L2.St → XK) (ta tb : TE) : TE := fun σ H Q => ta σ H fun x H1 => tb σ H1 fun y H2 => ∃ i j di dj fi fj, x = .ref i ∧ y = .ref j ∧ H2 i = some (.ins C di fi) ∧ H2 j = some (.ins C dj fj) ∧ sp [x, y] H2 Q (E σ)
theorem pe_opA {op : Operator} (o : Own X.K C f (PySem.dunder op.info.2)) (F : FnOk X.prog X.w X.K X.mg X.base CX k f fd ps sp) (hr : Room k X.A) (hb : Binds X.K fd ps []) (hx : ∀ σ, PassesAt CX X σ (E σ)) (ha : PE X a ta) (hb' : PE X b tb) : PE X (.BinOp a op b pos) (tOpA C sp E ta tb) := by
  refine ⟨fun pins s σ H Q J h => wpAny_BinOp (binT ha hb' J h fun v u s2 x y H2 J2 rx ry q => ?_)⟩
  obtain ⟨i, j, di, dj, fi, fj, rfl, rfl, e1, e2, q⟩ := q
  cases rx; cases ry
  obtain ⟨o1, I1⟩ := inst_of J2 e1
  obtain ⟨o2, I2⟩ := inst_of J2 e2
  refine bin_own J2.kIn I1 I2 o (thn (run_fnSD (E := E) (dvs := []) F hr hb Paired.nil (hx σ) J2 (vs := [.ref i, .ref j]) (.cons rfl (.cons rfl .nil)) q) fun z s3 hz => ?_)
  obtain ⟨v, H3, J3, rv, qv⟩ := hz
  exact ⟨relV_ne rv, v, H3, J3, rv, qv⟩
def tUnA (C : Addr) (sp : Sp) (E : L2.St → XK) (ta : TE) : TE := fun σ H Q => ta σ H fun x H1 => ∃ i di fi, x = .ref i ∧ H1 i = some (.ins C di fi) ∧ sp [x] H1 Q (E σ)
theorem pe_unA {op : UnaryOp} {nm : Str} (hop : (op = .Invert ∧ nm = "__invert__") ∨ (op = .USub ∧ nm = "__neg__")) (o : Own X.K C f nm) (F : FnOk X.prog X.w X.K X.mg X.base CX k f fd ps sp) (hr : Room k X.A) (hb : Binds X.K fd ps []) (hx : ∀ σ, PassesAt CX X σ (E σ)) (ha : PE X a ta) : PE X (.UnaryOp op a pos) (tUnA C sp E ta) := by
  refine ⟨fun pins s σ H Q J h => PyProof.Rows.UnaryOp_ (thn (ha.run pins s σ H _ J h) fun v s1 hh => ?_)⟩
  obtain ⟨x, H1, J1, r1, i, di, fi, rfl, e1, q⟩ := hh
  cases r1
  obtain ⟨o1, I1⟩ := inst_of J1 e1
  exact un_own hop J1.kIn I1 o (run_fnSD (E := E) (dvs := []) F hr hb Paired.nil (hx σ) J1 (vs := [.ref i]) (.cons rfl .nil) q)
/-- the in-place operator, of a method that raises nothing -/
def tiA (C : Addr) (sp : Sp) : TIp := fun x y H Q => ∃ i di fi, x = .ref i ∧ H i = some (.ins C di fi) ∧ sp [x, y] H Q fun _ _ _ => False
theorem ip_A {op : Operator} (o : Own X.K C f (PySem.dunderI op.info.2)) (F : FnOk X.prog X.w X.K X.mg X.base CX k f fd ps sp) (hr : Room k X.A) (hb : Binds X.K fd ps []) (hx : ∀ σ, PassesAt CX X σ fun _ _ _ => False) : PIp X op (tiA C sp) := by
  intro pins s σ H x y v u Q J rx ry h
  obtain ⟨i, di, fi, rfl, e1, q⟩ := h
  cases rx
  obtain ⟨o1, I1⟩ := inst_of J e1
  refine inp_own J.kIn I1 o (thn (run_fnSD (E := fun _ _ _ _ => False) (dvs := []) F hr hb Paired.nil (hx σ) J (vs := [.ref i, y]) (.cons rfl (.cons ry .nil)) q) fun z s3 hz => ?_)
  obtain ⟨v, H3, J3, rv, qv⟩ := hz
  exact ⟨relV_ne rv, v, H3, J3, rv, qv⟩
end
/-! ### their mirrors -/
def mOp2 (c : Str) (fn : Fn) (a b : ME) : ME := bnd a fun x => bnd b fun y s => match insAt c s x, insAt c s y with
  | some _, some _ => outR s (fn [x, y] s.st)
  | _, _ => .stuck
def mOp1 (c : Str) (fn : Fn) (a : ME) : ME := bnd a fun x s => match insAt c s x with
  | some _ => outR s (fn [x] s.st)
  | none => .stuck
/-- x op= e, x in slot i -/
def mAugO (i : Nat) (c : Str) (fn : Fn) (m : ME) : MS := fun s => match s.sl[i]? with
  | some (.imm x) => bnd m (fun y s => match s.sl[i]? with
    | some (.imm x') => (match insAt c s x' with
      | some _ => (match fn [x', y] s.st with
        | .ok z st' => .ok .nx ({ s with st := st' }.put i (.imm z))
        | _ => .stuck)
      | none => .stuck)
    | _ => .stuck) s
  | _ => .stuck
section
variable {X : Cx} {W : WX} {k : Nat} {f : Addr} {fd : FuncData} {ps : List Str} {fn : Fn} {c : Str} {a b e : Expr} {ma mb m : ME} {pos : Pos}
theorem je_op2 {op : Operator} (o : Own X.K (He.ga X.K c) f (PySem.dunder op.info.2)) (F : FnOk X.prog X.w X.K X.mg X.base (L2.CX X.prog X.w) k f fd ps (spF X.K ps.length fn)) (hr : Room k X.A) (tk : Takes X W) (hb : Binds X.K fd ps []) (ha : JE X W a ma) (hb' : JE X W b mb) (hl : 2 = ps.length := by rfl) : JE X W (.BinOp a op b pos) (mOp2 c fn ma mb) := by
  refine PE.imp (pe_opA (E := WE W) o F hr hb (fun σ => passAt tk σ) ha hb') fun σ H Q h => ?_
  obtain ⟨w, rfl, rfl, r, h⟩ := h
  refine run r h fun x s1 G1 vx H1 g1 r1 p1 h1 => ?_
  refine run r1 h1 fun y s2 G2 vy H2 g2 r2 p2 h2 => ?_
  cases hi : insAt c s2 x with
  | none => simp only [hi] at h2; exact h2.elim
  | some qx =>
    cases hj : insAt c s2 y with
    | none => simp only [hi, hj] at h2; exact h2.elim
    | some qy =>
      simp only [hi, hj] at h2
      have p1 := p1.mono g2
      obtain ⟨i, di, fi, rfl, _, e1, _⟩ := insAt_rel (w := { w with G := G2, H := H2, s := s2 }) (fs := qx.2) (n := qx.1) r2 p1 hi
      obtain ⟨j, dj, fj, rfl, _, e2, _⟩ := insAt_rel (w := { w with G := G2, H := H2, s := s2 }) (fs := qy.2) (n := qy.1) r2 p2 hj
      exact ⟨i, j, di, dj, fi, fj, rfl, rfl, e1, e2, call_run (W := W) (fn := fn) (w := { w with G := G2, H := H2, s := s2 }) r2 (.cons p1 (.cons p2 .nil)) hl h2⟩
theorem je_op1 {op : UnaryOp} {nm : Str} (hop : (op = .Invert ∧ nm = "__invert__") ∨ (op = .USub ∧ nm = "__neg__")) (o : Own X.K (He.ga X.K c) f nm) (F : FnOk X.prog X.w X.K X.mg X.base (L2.CX X.prog X.w) k f fd ps (spF X.K ps.length fn)) (hr : Room k X.A) (tk : Takes X W) (hb : Binds X.K fd ps []) (ha : JE X W a ma) (hl : 1 = ps.length := by rfl) : JE X W (.UnaryOp op a pos) (mOp1 c fn ma) := by
  refine PE.imp (pe_unA (E := WE W) hop o F hr hb (fun σ => passAt tk σ) ha) fun σ H Q h => ?_
  obtain ⟨w, rfl, rfl, r, h⟩ := h
  refine run r h fun x s1 G1 vx H1 g1 r1 p1 h1 => ?_
  cases hi : insAt c s1 x with
  | none => simp only [hi] at h1; exact h1.elim
  | some qx =>
    simp only [hi] at h1
    obtain ⟨i, di, fi, rfl, _, e1, _⟩ := insAt_rel (w := { w with G := G1, H := H1, s := s1 }) (fs := qx.2) (n := qx.1) r1 p1 hi
    exact ⟨i, di, fi, rfl, e1, call_run (W := W) (fn := fn) (w := { w with G := G1, H := H1, s := s1 }) r1 (.cons p1 .nil) hl h1⟩
theorem js_augO {op : Operator} {i : Nat} {x : Str} {pos' : Pos} (hN : X.N.Nodup) (hi : X.N[i]? = some x) (hx : Loc X.env.scope x) (o : Own X.K (He.ga X.K c) f (PySem.dunderI op.info.2)) (F : FnOk X.prog X.w X.K X.mg X.base (L2.CX X.prog X.w) k f fd ps (spF X.K ps.length fn)) (hr : Room k X.A) (hb : Binds X.K fd ps []) (he : JE X W e m) (hl : 2 = ps.length := by rfl) (hf : X.fn x = true ∨ X.env.scope.names.lookup x = some .local := by first | exact .inl rfl | exact .inr rfl) : JS X W (.AugAssign (.Name x pos') op e pos) (mAugO i c fn m) := by
  refine PS.imp (ps_aug hN hi hx he (ip_A o F hr hb (fun σ => passAt (W := fun _ _ _ _ => False) tkF σ)) hf) fun D σ H h => ?_
  obtain ⟨w, rfl, rfl, r, h⟩ := h
  unfold mAugO at h
  cases hs : w.s.sl[i]? with
  | none => simp only [hs] at h; exact h.elim
  | some sl =>
    cases sl with
    | imm x0 =>
      simp only [hs] at h
      obtain ⟨v0, hv0, pv0⟩ := r.sl.imm i x0 hs
      refine ⟨v0, hv0, ?_⟩
      refine runS r h fun y s' G' vy H' g r' p h' => ?_
      cases hs2 : s'.sl[i]? with
      | none => simp only [hs2] at h'; exact h'.elim
      | some sl2 =>
        cases sl2 with
        | imm x' =>
          simp only [hs2] at h'
          obtain ⟨v1, hv1, pv1⟩ := r'.sl.imm i x' hs2
          have hv1 : w.σ[i]? = some (some v1) := hv1
          rw [hv0] at hv1
          cases hv1
          cases hc : insAt c s' x' with
          | none => simp only [hc] at h'; exact h'.elim
          | some qx =>
            simp only [hc] at h'
            obtain ⟨ia, di, fi, rfl, _, e1, _⟩ := insAt_rel (w := { w with G := G', H := H', s := s' }) (fs := qx.2) (n := qx.1) r' pv1 hc
            refine ⟨ia, di, fi, rfl, e1, ?_⟩
            refine ⟨G', [x', y], s'.st, hl, ⟨r'.ex, r'.st⟩, .cons pv1 (.cons p .nil), ?_⟩
            cases hf2 : fn [x', y] s'.st with
            | ok z st' =>
              rw [hf2] at h'
              intro G3 vz H3 l at3 p3
              have r3 := Rel.after (w := { w with G := G', H := H', s := s' }) r' l at3
              exact h' G3 _ H3 l.g (Rel.set (w := { w with G := G3, H := H3, s := { s' with st := st' } }) r3 p3)
            | exc x2 st' => rw [hf2] at h'; exact h'.elim
            | stuck => rw [hf2] at h'; exact h'.elim
        | _ => simp only [hs2] at h'; exact h'.elim
    | _ => simp only [hs] at h; exact h.elim
end
/-! ### isinstance(x, C) -/
structure IsC (K : PySem.W.Frag) (c : Str) : Prop where
  cl : Cls K (He.ga K c)
  ty : ∀ H a dx fs, H a = some (.ins (He.ga K c) dx fs) → TyX K H (.ref a) (.ref (He.ga K c))
  yes : PySem.W.kitOne K (.ref (He.ga K c)) (.ref (He.ga K c)) = some true
  no : ∀ t ∈ tysL, PySem.W.kitOne K (.type t) (.ref (He.ga K c)) = some false
def mIsC (c : Str) (m : ME) : ME := bnd m fun d s => match insAt c s d with
  | some _ => .ok (.bl true) s
  | none => (match tyD d with
    | some _ => .ok (.bl false) s
    | none => .stuck)
theorem je_isC {X : Cx} {W : WX} {c : Str} {e : Expr} {m : ME} {p q pos : Pos} (hI : IsC X.K c) (hg : Gl X "isinstance") (hm : X.mg "isinstance" = none) (hgC : Gl X c) (hmC : X.mg c = some (.ref (He.ga X.K c))) (h : JB X W e m) (hdb : (c == ("__debug__" : Str)) = false := by decide)
    (hs : starEach [e, .Name c q] X.env = (false, eval e X.env) :: starEach [.Name c q] X.env := by rfl) (hs2 : starEach [.Name c q] X.env = (false, eval (.Name c q) X.env) :: starEach [] X.env := by rfl) (h2 : (backTo pos (starEach [.Name c q] X.env)).any (·.1) = false := by rfl) :
    JE X W (.Call (.Name "isinstance" p) [e, .Name c q] [] pos) (mIsC c m) := by
  refine PE.imp (pe_callB call_isi hg hm rfl (pa_cons h (pa_cons (pe_glob (v := .ref (He.ga X.K c)) hgC hmC rfl hdb) pa_nil hs2) hs) (by decide) (by decide) hs h2) fun σ H Q h => ?_
  obtain ⟨w, rfl, rfl, r, h⟩ := h
  refine run r h fun d s' G' v H' g r' p h' => ?_
  cases hi : insAt c s' d with
  | some qx =>
    simp only [hi] at h'
    have p := p.rep (fun ds e => by subst e; simp [insAt] at hi)
    obtain ⟨a, dx, fvs, rfl, _, e1, _⟩ := insAt_rel (w := { w with G := G', H := H', s := s' }) (fs := qx.2) (n := qx.1) r' p hi
    exact ⟨_, .ref (He.ga X.K c), .ref (He.ga X.K c), .ref (He.ga X.K c), true, rfl, .own _, hI.ty _ _ _ _ e1, hI.yes, h' _ _ _ (.refl _) r' (.bl _)⟩
  | none =>
    simp only [hi] at h'
    cases ht : tyD d with
    | none => simp only [ht] at h'; exact h'.elim
    | some t =>
      simp only [ht] at h'
      exact ⟨v, .ref (He.ga X.K c), .type t, .ref (He.ga X.K c), false, rfl, .own _, tyx_of r' p ht, hI.no t (tyD_in ht), h' _ _ _ (.refl _) r' (.bl _)⟩
end DL

/-! zip of three lists -/
namespace DL
open PySem PySem.Spec PyProof.Rows L2
theorem dr_list {P : Program} {w : World} {A : Around} (hh : A.handled = none) {it l : Addr} (hne : l ≠ it) {its : Array Value} {h : Heap} {i : Nat} (a : h.IsListIter it l i) (b : h.IsList l its) :
    ∃ n Pv St, Draws P w A it [it, l] n Pv St ∧ St i h ∧ i ≤ n ∧ (its.size ≤ i → i = n) := by
  by_cases q : i < its.size
  · exact ⟨_, _, _, Draws.list hh it l hne its, ⟨a, b⟩, Nat.le_of_lt q, fun z => absurd q (Nat.not_lt.mpr z)⟩
  · refine ⟨i, fun _ _ => True, fun j h => j = i ∧ h.IsListIter it l j ∧ h.IsList l its, ?_, ⟨rfl, a, b⟩, Nat.le_refl _, fun _ => rfl⟩
    exact {
      live := fun _ _ st => let ⟨o, ho, _⟩ := st.2.1; ⟨o, ho⟩
      frame := fun _ _ _ st hk => ⟨st.1, st.2.1.at fun o e => hk it (by simp) o e, st.2.2.at fun o e => hk l (by simp) o e⟩
      item := fun j s Q E hj st => absurd st.1 (Nat.ne_of_lt hj)
      done := fun s Q E st hE => wpAny_nextOf_list_end hh st.2.1 st.2.2 (by simp; exact Nat.le_of_not_lt q) hE }
def Itz3 (K : PySem.W.Frag) (a b c : Addr) : It :=
  ⟨fun i H => ∃ (xs ys zs : List V) (x y z : V), SqL K H a xs ∧ SqL K H b ys ∧ SqL K H c zs ∧ xs[i]? = some x ∧ ys[i]? = some y ∧ zs[i]? = some z,
    fun i H v H' => ∃ T x y z, v = .ref T ∧ H T = none ∧ H' = upd H T (.tup [x, y, z]) ∧ (∀ xs, SqL K H a xs → xs[i]? = some x) ∧ (∀ ys, SqL K H b ys → ys[i]? = some y) ∧ ∀ zs, SqL K H c zs → zs[i]? = some z,
    fun i H => ∃ xs ys zs : List V, SqL K H a xs ∧ SqL K H b ys ∧ SqL K H c zs ∧ (xs.length ≤ i ∨ ys.length ≤ i ∨ zs.length ≤ i)⟩
theorem nq {x y : Nat} (h : x ≠ y) : @Ne Addr x y := h
theorem z3_sep {n a b c : Nat} (ha : a < n) (hb : b < n) (hc : c < n) : ZipSep3 (n + 5) (n + 3) (n + 4) n (n + 1) (n + 2) [n, a] [n + 1, b] [n + 2, c] := by
  have m : ∀ {x y z : Nat}, x ≠ y → x ≠ z → (show Addr from x) ∉ ([y, z] : List Addr) := fun h1 h2 h => by
    rcases List.mem_cons.mp h with h | h
    · exact h1 h
    · exact h2 (List.mem_singleton.mp h)
  exact ⟨nq (by omega), nq (by omega), nq (by omega), nq (by omega), List.mem_cons_self, m (by omega) (by omega), m (by omega) (by omega), nq (by omega), List.mem_cons_self, m (by omega) (by omega), m (by omega) (by omega), nq (by omega), List.mem_cons_self, m (by omega) (by omega), m (by omega) (by omega), m (by omega) (by omega), m (by omega) (by omega), m (by omega) (by omega), m (by omega) (by omega), m (by omega) (by omega), m (by omega) (by omega)⟩
theorem turn_z3 {P : Program} {w : World} {K : PySem.W.Frag} {elts : List Expr} {kk : Nat} {tpos : Pos} {n a b c : Nat} (ha : a < n) (hb : b < n) (hc : c < n) :
    Turn P w K (.Tuple elts kk tpos) (Itz3 K a b c) [n + 5, n + 3, n + 4, n, n + 1, n + 2] (n + 5) (fun i h => IsZip h (n + 5) (n + 3) (n + 4) .none ∧ IsTupOf3 h (n + 3) (.ref n) (.ref (n + 1)) (.ref (n + 2)) ∧ (∃ x y z, IsTupOf3 h (n + 4) x y z) ∧ h.IsListIter n a i ∧ h.IsListIter (n + 1) b i ∧ h.IsListIter (n + 2) c i) where
  mem := by simp
  obj := fun i h st d hd => by
    obtain ⟨hz, hTI, ⟨x, y, z, hTO⟩, ⟨o1, e1, _, d1⟩, ⟨o2, e2, _, d2⟩, ⟨o3, e3, _, d3⟩⟩ := st
    have e' : d = n + 5 ∨ d = n + 3 ∨ d = n + 4 ∨ d = n ∨ d = n + 1 ∨ d = n + 2 := by simpa using hd
    rcases e' with rfl | rfl | rfl | rfl | rfl | rfl
    · exact ⟨_, hz, fun v q => nomatch q⟩
    · exact ⟨_, hTI, fun v q => nomatch q⟩
    · exact ⟨_, hTO, fun v q => nomatch q⟩
    · exact ⟨o1, e1, fun v q => by rw [d1] at q; cases q⟩
    · exact ⟨o2, e2, fun v q => by rw [d2] at q; cases q⟩
    · exact ⟨o3, e3, fun v q => by rw [d3] at q; cases q⟩
  keep := fun i h h' st k => by
    obtain ⟨hz, hTI, ⟨x, y, z, hTO⟩, h1, h2, h3⟩ := st
    exact ⟨k _ (by simp) _ hz, k _ (by simp) _ hTI, ⟨x, y, z, k _ (by simp) _ hTO⟩, h1.at fun o q => k _ (by simp) o q, h2.at fun o q => k _ (by simp) o q, h3.at fun o q => k _ (by simp) o q⟩
  item := by
    intro X hP hw hK hcl i pins s σ H E I hf st hg
    subst hP hw hK
    obtain ⟨hz, hTI, ⟨x0, y0, z0, hTO⟩, h1, h2, h3⟩ := st
    obtain ⟨xs, ys, zs, x, y, z, hqx, hqy, hqz, hx, hy, hzz⟩ := hg
    obtain ⟨its, rv, p, _⟩ := I.list hqx
    obtain ⟨its2, rv2, p2, _⟩ := I.list hqy
    obtain ⟨its3, rv3, p3, _⟩ := I.list hqz
    obtain ⟨u, hu, ru⟩ := rv.get hx
    obtain ⟨u2, hu2, ru2⟩ := rv2.get hy
    obtain ⟨u3, hu3, ru3⟩ := rv3.get hzz
    have hA : X.A.in1.handled = none := I.ok.hd hcl
    have D1 : Draws X.prog X.w X.A.in1 n [n, a] _ _ _ := Draws.list hA n a (nq (by omega)) its.toArray
    have D2 : Draws X.prog X.w X.A.in1 (n + 1) [n + 1, b] _ _ _ := Draws.list hA (n + 1) b (nq (by omega)) its2.toArray
    have D3 : Draws X.prog X.w X.A.in1 (n + 2) [n + 2, c] _ _ _ := Draws.list hA (n + 2) c (nq (by omega)) its3.toArray
    have hzl : n + 5 < s.heap.objs.size := Heap.lt_size hz
    refine wpAny_pyNext_zipD3_item (z3_sep ha hb hc) D1 D2 D3 hz hTI hTO ⟨h1, p.isList⟩ ⟨h2, p2.isList⟩ ⟨h3, p3.isList⟩
      (by obtain ⟨q, _⟩ := List.getElem?_eq_some_iff.mp hu; simpa using q) (by obtain ⟨q, _⟩ := List.getElem?_eq_some_iff.mp hu2; simpa using q) (by obtain ⟨q, _⟩ := List.getElem?_eq_some_iff.mp hu3; simpa using q) fun x1 x2 x3 h' tk P1 P2 P3 z' TO' s1 s2 s3 hT hsz hk => ?_
    obtain rfl : u = x1 := Option.some.inj (hu.symm.trans (by simpa using P1))
    obtain rfl : u2 = x2 := Option.some.inj (hu2.symm.trans (by simpa using P2))
    obtain rfl : u3 = x3 := Option.some.inj (hu3.symm.trans (by simpa using P3))
    refine ⟨_, rfl, wpAny_letOwnedTupleGo_zip (s := { s with heap := h', toks := tk }) z' fun h'' z'' sb => ?_⟩
    have hT2 : h''.get? s.heap.objs.size = some { cls := .type "tuple", data := .seq #[u, u2, u3] } := (sb.2 _ (Nat.ne_of_gt hzl)).trans hT
    have new : ObjOk X.prog X.w (upd H s.heap.objs.size (.tup [x, y, z])) h'' s.heap.objs.size (.tup [x, y, z]) :=
      ⟨by show 3 ≤ sizeLine; decide, [u, u2, u3], .cons ru (.cons ru2 (.cons ru3 .nil)), ⟨_, hT2, rfl, _, rfl⟩⟩
    have I1 : Inv X pins σ (upd H s.heap.objs.size (.tup [x, y, z])) { s with heap := h'', toks := tk } :=
      I.turnedNew (t' := tk) (ch := [n + 5, n + 3, n + 4, n, n + 1, n + 2]) (fun d o hb q => (sb.2 d (fun q' => hb (by simp [q']))).trans (hk d o (fun q' => hb (by simp [q'])) (fun q' => hb (by simp [q'])) (fun q' => hb (by simp [q'])) (fun q' => hb (by simp [q'])) (fun q' => hb (by simp [q'])) q)) hf (Nat.le_refl _) new
    refine ⟨.ref s.heap.objs.size, _, I1, rfl, ⟨_, x, y, z, rfl, I.hok.fresh (Nat.le_refl _), rfl, fun l hl => by rw [I.list_inj hl hqx]; exact hx, fun l hl => by rw [I.list_inj hl hqy]; exact hy, fun l hl => by rw [I.list_inj hl hqz]; exact hzz⟩, ⟨z'', ?_, ⟨u, u2, u3, ?_⟩, ?_, ?_, ?_⟩, fun d hdm => ?_⟩
    · exact (sb.2 _ (nq (by omega))).trans (hk _ _ (nq (by omega)) (nq (by omega)) (nq (by omega)) (nq (by omega)) (nq (by omega)) hTI)
    · exact (sb.2 _ (nq (by omega))).trans TO'
    · exact s1.1.at fun o q => (sb.2 _ (nq (by omega))).trans q
    · exact s2.1.at fun o q => (sb.2 _ (nq (by omega))).trans q
    · exact s3.1.at fun o q => (sb.2 _ (nq (by omega))).trans q
    · have hlt : @LT.lt Nat _ d s.heap.objs.size := by
        have e' : @Eq Nat d (n + 5) ∨ @Eq Nat d (n + 3) ∨ @Eq Nat d (n + 4) ∨ @Eq Nat d n ∨ @Eq Nat d (n + 1) ∨ @Eq Nat d (n + 2) := by simpa using hdm
        omega
      rw [upd_ne (Nat.ne_of_lt hlt)]
      exact (hf d hdm).1
  done := by
    intro X hP hw hK hcl i pins s σ H E I hf st hg
    subst hP hw hK
    obtain ⟨hz, hTI, ⟨x0, y0, z0, hTO⟩, h1, h2, h3⟩ := st
    obtain ⟨xs, ys, zs, hqx, hqy, hqz, hend⟩ := hg
    obtain ⟨its, rv, p, _⟩ := I.list hqx
    obtain ⟨its2, rv2, p2, _⟩ := I.list hqy
    obtain ⟨its3, rv3, p3, _⟩ := I.list hqz
    have l1 := rv.length
    have l2 := rv2.length
    have l3 := rv3.length
    have hA : X.A.in1.handled = none := I.ok.hd hcl
    obtain ⟨n1, P1, S1, D1, t1, b1, e1⟩ := dr_list (P := X.prog) (w := X.w) hA (Nat.ne_of_lt ha) h1 p.isList
    obtain ⟨n2, P2, S2, D2, t2, b2, e2⟩ := dr_list (P := X.prog) (w := X.w) hA (show b ≠ n + 1 by omega) h2 p2.isList
    obtain ⟨n3, P3, S3, D3, t3, b3, e3⟩ := dr_list (P := X.prog) (w := X.w) hA (show c ≠ n + 2 by omega) h3 p3.isList
    have he : i = n1 ∨ i = n2 ∨ i = n3 := by
      rcases hend with q | q | q
      · exact .inl (e1 (by simpa using (by omega : its.length ≤ i)))
      · exact .inr (.inl (e2 (by simpa using (by omega : its2.length ≤ i))))
      · exact .inr (.inr (e3 (by simpa using (by omega : its3.length ≤ i))))
    exact wpAny_pyNext_zipD3_end (z3_sep ha hb hc) D1 D2 D3 hz hTI hTO t1 t2 t3 b1 b2 b3 he fun h' tk hk => ⟨rfl, I.turnedL (t' := tk) (ch := [n + 5, n + 3, n + 4, n, n + 1, n + 2]) (fun d o hb q =>
      hk d o (fun q' => hb (by simp [q'])) (fun q' => hb (by simp [q'])) (fun q' => hb (by simp [q'])) (fun q' => hb (by simp [q'])) (fun q' => hb (by simp [q'])) q) hf⟩
  self := fun A i s Q E st h => wpAny_pyIter_zip st.1 h
def iZ3 (K : PySem.W.Frag) (ta : TA) : TI := fun σ H R => ta σ H fun vs H1 => ∃ a b c xs ys zs, vs = [.ref a, .ref b, .ref c] ∧ SqL K H1 a xs ∧ SqL K H1 b ys ∧ SqL K H1 c zs ∧ R (Itz3 K a b c) H1
theorem pi_z3 {X : Cx} {e e2 e3 : Expr} {ta : TA} {p pos tpos : Pos} {elts : List Expr} {kk : Nat} (hg : Gl X "zip") (hm : X.mg "zip" = none) (ha : PA X [e, e2, e3] ta)
    (hs : starEach [e, e2, e3] X.env = (false, eval e X.env) :: starEach [e2, e3] X.env := by rfl) (hpl : (backTo pos (starEach [e2, e3] X.env)).any (·.1) = false := by rfl) :
    PI X (.Tuple elts kk tpos) (.Call (.Name "zip" p) [e, e2, e3] [] pos) (iZ3 X.K ta) := by
  refine ⟨fun pins s σ H R I h => ?_⟩
  refine Call_ (ld_blt I hg hm PyProof.Rows.boot_zip (PyProof.Rows.callWith_type1 (thn (ha.run pos pins s σ H _ I h) fun us s1 ⟨vs, H1, I1, r1, q1⟩ => ?_) hs hpl))
  obtain ⟨a, b, c, xs, ys, zs, ex, hqx, hqy, hqz, q⟩ := q1
  subst ex
  cases r1 with
  | cons r rr =>
    cases rr with
    | cons r' rr =>
      cases rr with
      | cons r'' rr =>
        cases rr
        cases r
        cases r'
        cases r''
        obtain ⟨its, rv, p1, _⟩ := I1.list hqx
        obtain ⟨its2, rv2, p2, _⟩ := I1.list hqy
        obtain ⟨its3, rv3, p3, _⟩ := I1.list hqz
        have la : @LT.lt Nat _ a s1.heap.objs.size := p1.lt
        have lb : @LT.lt Nat _ b s1.heap.objs.size := p2.lt
        have lc : @LT.lt Nat _ c s1.heap.objs.size := p3.lt
        refine zip_begins3 (begins_list a its.toArray) (begins_list b its2.toArray) (begins_list c its3.toArray) p1.isList p2.isList p3.isList fun h' hz hTI hTO g1 g2 g3 hsz hk => wpAny_pyIter_zip hz ?_
        have I2 : Inv X pins σ H1 { s1 with heap := h' } := I1.kept (t' := s1.toks) hk
        have t1 : h'.IsListIter s1.heap.objs.size a 0 := ⟨_, g1, rfl, rfl⟩
        have t2 : h'.IsListIter (s1.heap.objs.size + 1) b 0 := ⟨_, g2, rfl, rfl⟩
        have t3 : h'.IsListIter (s1.heap.objs.size + 2) c 0 := ⟨_, g3, rfl, rfl⟩
        have T := turn_z3 (P := X.prog) (w := X.w) (K := X.K) (elts := elts) (kk := kk) (tpos := tpos) la lb lc
        refine ⟨s1.heap.objs.size + 5, [s1.heap.objs.size + 5, s1.heap.objs.size + 3, s1.heap.objs.size + 4, s1.heap.objs.size, s1.heap.objs.size + 1, s1.heap.objs.size + 2], _, _, H1, rfl, I2, T, ⟨hz, hTI, ⟨_, _, _, hTO⟩, t1, t2, t3⟩, fun d hd => ?_, q⟩
        have e' : @Eq Nat d (s1.heap.objs.size + 5) ∨ @Eq Nat d (s1.heap.objs.size + 3) ∨ @Eq Nat d (s1.heap.objs.size + 4) ∨ @Eq Nat d s1.heap.objs.size ∨ @Eq Nat d (s1.heap.objs.size + 1) ∨ @Eq Nat d (s1.heap.objs.size + 2) := by simpa using hd
        have hle : @LE.le Nat _ s1.heap.objs.size d := by omega
        exact I1.fpOk hle (I1.hok.fresh hle)
/-! the mirror -/
def zip3D : List D → List D → List D → List D
  | x :: xs, y :: ys, z :: zs => .tup [x, y, z] :: zip3D xs ys zs
  | _, _, _ => []
theorem zip3D_get : ∀ {xs ys zs : List D} {i : Nat} {d : D}, (zip3D xs ys zs)[i]? = some d → ∃ x y z, xs[i]? = some x ∧ ys[i]? = some y ∧ zs[i]? = some z ∧ d = .tup [x, y, z]
  | x :: xs, y :: ys, z :: zs, 0, d, h => by
    simp [zip3D] at h
    exact ⟨x, y, z, rfl, rfl, rfl, h.symm⟩
  | x :: xs, y :: ys, z :: zs, i + 1, d, h => by
    obtain ⟨a, b, c, h1, h2, h3, h4⟩ := zip3D_get (xs := xs) (ys := ys) (zs := zs) (i := i) (d := d) (by simpa [zip3D] using h)
    exact ⟨a, b, c, by simpa using h1, by simpa using h2, by simpa using h3, h4⟩
  | [], _, _, _, _, h => by simp [zip3D] at h
  | _ :: _, [], _, _, _, h => by simp [zip3D] at h
  | _ :: _, _ :: _, [], _, _, h => by simp [zip3D] at h
theorem zip3D_len : ∀ (xs ys zs : List D), (zip3D xs ys zs).length = min xs.length (min ys.length zs.length)
  | x :: xs, y :: ys, z :: zs => by simp only [zip3D, List.length_cons, zip3D_len xs ys zs]; omega
  | [], _, _ => by simp [zip3D]
  | _ :: _, [], _ => by simp [zip3D]
  | _ :: _, _ :: _, [] => by simp [zip3D]
theorem itz3_r {K : PySem.W.Frag} {G : Gh} {a b c : Addr} {vs us ts : List V} {xs ys zs : List D} (h : SqL K G.F a vs) (h' : SqL K G.F b us) (h'' : SqL K G.F c ts) (rs : Reps K G vs xs) (rs' : Reps K G us ys) (rs'' : Reps K G ts zs) : ItR K (Itz3 K a b c) G (zip3D xs ys zs) where
  go := fun pn w r g i hi => by
    rw [zip3D_len, ← rs.length, ← rs'.length, ← rs''.length] at hi
    have e := fun b o q => r.ex b o (g.f b o q)
    exact ⟨vs, us, ts, vs[i]'(by omega), us[i]'(by omega), ts[i]'(by omega), sqL_mono e h, sqL_mono e h', sqL_mono e h'', List.getElem?_eq_getElem _, List.getElem?_eq_getElem _, List.getElem?_eq_getElem _⟩
  yld := fun pn w r g i d x H' hd hy => by
    have e := fun b o q => r.ex b o (g.f b o q)
    obtain ⟨T, x, y, z, rfl, hT, rfl, y1, y2, y3⟩ := hy
    obtain ⟨d1, d2, d3, q1, q2, q3, rfl⟩ := zip3D_get hd
    obtain ⟨v1, k1, p1⟩ := rs.get q1
    obtain ⟨v2, k2, p2⟩ := rs'.get q2
    obtain ⟨v3, k3, p3⟩ := rs''.get q3
    have z1 := y1 vs (sqL_mono e h)
    have z2 := y2 us (sqL_mono e h')
    have z3 := y3 ts (sqL_mono e h'')
    rw [k1] at z1
    rw [k2] at z2
    rw [k3] at z3
    cases z1; cases z2; cases z3
    have hn := r.noF hT
    have gg := g.trans (gle_upd (o := .tup [x, y, z]) hn)
    exact ⟨_, gle_upd hn, r.new hT, .tup upd_same (.cons (p1.mono gg) (.cons (p2.mono gg) (.cons (p3.mono gg) .nil)))⟩
  stop := fun pn w r g i hi => by
    rw [zip3D_len, ← rs.length, ← rs'.length, ← rs''.length] at hi
    have e := fun b o q => r.ex b o (g.f b o q)
    exact ⟨vs, us, ts, sqL_mono e h, sqL_mono e h', sqL_mono e h'', by omega⟩
/-- the items of a list -/
def lsD (d : D) : Option (List D) := if isTup d then none else itD d
theorem rep_ls {K : PySem.W.Frag} {G : Gh} {v : V} {d : D} {ds : List D} (p : Rep K G v d) (h : lsD d = some ds) : ∃ a vs, v = .ref a ∧ SqL K G.F a vs ∧ Reps K G vs ds := by
  unfold lsD at h
  split at h
  · cases h
  · rename_i q
    exact rep_sq p h (by simpa using q)
def mZip3 (m : MA) : MA := bnd m fun ds s => match ds with
  | [a, b, c] => (match lsD a, lsD b, lsD c with
    | some x, some y, some z => .ok (zip3D x y z) s
    | _, _, _ => .stuck)
  | _ => .stuck
theorem ji_zip3 {X : Cx} {W : WX} {e e2 e3 : Expr} {m : MA} {p pos tpos : Pos} {elts : List Expr} {kk : Nat} (hg : Gl X "zip") (hm : X.mg "zip" = none) (h : JA X W [e, e2, e3] m)
    (hs : starEach [e, e2, e3] X.env = (false, eval e X.env) :: starEach [e2, e3] X.env := by rfl) (hpl : (backTo pos (starEach [e2, e3] X.env)).any (·.1) = false := by rfl) : JI X W (.Tuple elts kk tpos) (.Call (.Name "zip" p) [e, e2, e3] [] pos) (mZip3 m) := by
  refine PI.imp (pi_z3 hg hm h.pa hs hpl) fun σ H Q h => ?_
  obtain ⟨w, rfl, rfl, r, h⟩ := h
  refine run' r h fun ds s' G' vs H' hm2 g r' q h' => ?_
  split at h'
  · rename_i a b c
    split at h'
    · rename_i x y z hx hy hz
      match vs, q with
      | [_, _, _], .cons p1 (.cons p2 (.cons p3 .nil)) =>
        obtain ⟨ad1, v1, rfl, k1, j1⟩ := rep_ls p1 hx
        obtain ⟨ad2, v2, rfl, k2, j2⟩ := rep_ls p2 hy
        obtain ⟨ad3, v3, rfl, k3, j3⟩ := rep_ls p3 hz
        exact ⟨_, _, _, _, _, _, rfl, sqL_mono r'.ex k1, sqL_mono r'.ex k2, sqL_mono r'.ex k3, fin r' h' (itz3_r k1 k2 k3 j1 j2 j3)⟩
    · exact h'.elim
  · exact h'.elim
end DL

/-! sorted(set(list of ints)) -/
namespace DL
open PySem PySem.Spec PyProof.Rows L2
abbrev soO (w : World) : Obj := { cls := .type "set", dict := none, data := .set #[] 0 (.fresh 0 0 (!w.params.followText "set-order")) }
section
variable {P : Program} {w : World} {A : Around} {E : Value → Shared → Prop} {s : Shared}
theorem set_of_list {l : Addr} {items : Array Value} (ns : List Int) {Q : Value → Shared → Prop} (hh : A.handled = none) (hl : s.heap.IsList l items) (hit : IntsAre items.toList ns) (hb : ns.length + 1 < scanBound)
    (h : ∀ (h' : Heap) (tk c : Nat), SetR w h' s.heap.objs.size (fun j => decide (j ∈ ns)) c → (∀ b o, s.heap.get? b = some o → h'.get? b = some o) → Q (.ref s.heap.objs.size) { s with heap := h', toks := tk }) :
    wpAny (model P w) A (call (.type "set") [.ref l]) Q E s := by
  have size_eq : items.size = ns.length := by have q := IntsAre.length hit; rw [Array.length_toList] at q; exact q
  obtain ⟨c0, tl, hmro⟩ := F.called_set.mro
  have hmade := F.called_set.made
  have hsub := F.called_set.sub
  refine wpAny_call (codeAny_of_tree ?_)
  show wpAny _ _ (callAny (.type "set") _) _ _ _
  refine wpAny_pure ⟨Code.quiet_builtin _ (by decide +kernel), codeAny_builtin F.entry_type_call ?_⟩
  rw [Around.under_plain (weight_type_call_type "set" [.ref l] []) rfl]
  have h1 := F.called_set.notType
  have h2 := F.called_set.canCreate
  have hct := F.typeCall_set_1 (.ref l)
  repeat (any_goals (first | assumption | wp_step))
  refine codeAny_mono (code_set_led1 (.ref l) (E := E) (Q₁ := fun ob t => ob = .ref s.heap.objs.size ∧ t = { s with heap := s.heap.push (soO w) }) ⟨rfl, rfl⟩) fun r t hr => ?_
  cases r with
  | error e => exact hr
  | ok fl =>
    cases fl with
    | ret ob =>
      obtain ⟨rfl, rfl⟩ := hr
      have here : (s.heap.push (soO w)).get? s.heap.objs.size = some (soO w) := Heap.get?_push_size _ rfl
      have hT : Shared.TypeIs { s with heap := s.heap.push (soO w) } (.ref s.heap.objs.size) "set" := ⟨_, here, rfl⟩
      have hli := F.called_set.init.lookup
      have hbi := F.called_set.init.bind (.ref s.heap.objs.size)
      repeat (any_goals (first | assumption | wp_step))
      refine codeAny_mono (codeAny_call_builtin (R := wants (fun r t => r = .none ∧ ∃ h' tk c, t = { s with heap := h', toks := tk } ∧ SetR w h' s.heap.objs.size (fun j => decide (j ∈ ns)) c ∧ (∀ b o, s.heap.get? b = some o → h'.get? b = some o)) E) F.called_set.init.plain F.entry_set_init (check_set_init_1 hT ?_)) fun r2 t2 hr2 => ?_
      · obtain ⟨⟨lc, ld, ldt, lsl⟩, e1, e2, n0, e3⟩ := hl
        simp only at e2 e3
        subst e2 e3
        have e1' : (s.heap.push (soO w)).get? l = some { cls := .type "list", dict := ld, data := .seq items n0, slots := lsl } := Heap.get?_push_of_some _ e1
        have hsls := F.sub_list_set
        have hslf := F.sub_list_frozenset
        have hne : (Value.type "list" == Value.type "dict") = false := by decide
        have isl : (s.heap.push (soO w)).IsList l items := ⟨_, e1', rfl, n0, rfl⟩
        unfold Builtin.«set.__init__» noKeywords Builtin.Frozenset.updateFrom
        generalize hPI : pyIter = PI
        wp_walk
        subst hPI
        refine wpAny_pyIter_list isl ?_
        refine wpAny_bind (wpAny_runValue ?_)
        have below : l < s.heap.objs.size := Heap.lt_size e1
        have hA3 : A.in1.in1.in1.handled = none := by simp [hh]
        have apart : l ≠ (s.heap.push (soO w)).objs.size := by rw [Heap.size_push]; exact Nat.ne_of_lt (Nat.lt_succ_of_lt below)
        have outside : s.heap.objs.size ∉ [(s.heap.push (soO w)).objs.size, l] := by
          rw [Heap.size_push]
          intro q
          rcases List.mem_cons.mp q with q | q
          · exact Nat.ne_of_lt (Nat.lt_succ_self _) q
          · exact Nat.ne_of_gt below (List.mem_singleton.mp q)
        refine set_update_ints ((Walks.list hA3 _ l apart items).toS) s.heap.objs.size outside ns size_eq hb (fun i v hv => ?_) (items.size - 0) 0 _ (by omega) (Nat.zero_le _) ⟨⟨_, Heap.get?_push_size _ rfl, rfl, rfl⟩, (isl.push _)⟩ ⟨0, Nat.le_refl 0, setR_new_at (Heap.get?_push_of_some _ here)⟩ fun t3 c3 hm hc3 hS3 => ?_
        · have hi : i < ns.length := by rw [← size_eq]; exact (Array.getElem?_eq_some_iff.mp hv).1
          obtain ⟨tk, e⟩ := PyProof.Rows.IntsAre.int_at hit i v (by rw [Array.getElem?_toList]; exact hv)
          refine ⟨ns[i], tk, List.getElem?_eq_getElem hi, ?_⟩
          rw [e, List.getD_eq_getElem?_getD, List.getElem?_eq_getElem hi] <;> rfl
        · obtain ⟨hp, gg, dd, tk, oo⟩ := t3
          have x1 : gg = s.gens := hm.gens
          have x2 : dd = s.drawn := hm.drawn
          have x3 : oo = s.os := hm.os
          subst x1 x2 x3
          show wpAny _ _ _ _ _ _
          refine wpAny_pure ?_
          show wpAny _ _ (PySem.ret Value.none) _ _ _
          refine wpAny_pure ⟨rfl, hp, tk, c3, rfl, hS3, fun b o e => ?_⟩
          have hb0 : b < s.heap.objs.size := Heap.lt_size e
          refine hm.heap b o (fun q => ?_) (Heap.get?_push_of_some _ (Heap.get?_push_of_some _ e))
          rcases List.mem_cons.mp q with q | q
          · exact Nat.ne_of_lt hb0 q
          · have q := List.mem_singleton.mp q
            rw [Heap.size_push] at q
            exact Nat.ne_of_lt (Nat.lt_succ_of_lt hb0) q
      · cases r2 with
        | error e => exact hr2
        | ok fl2 =>
          cases fl2 with
          | ret r =>
            obtain ⟨rfl, h', tk, c', rfl, hS', hk'⟩ := hr2
            repeat (any_goals (first | assumption | wp_step))
            exact h _ _ _ hS' hk'
          | _ => exact hr2.elim
    | _ => exact hr.elim
end
theorem len_same : ∀ {l l' : List Int}, l.Nodup → l'.Nodup → (∀ k, k ∈ l ↔ k ∈ l') → l.length = l'.length := fun d d' h => ((List.perm_ext_iff_of_nodup d d').mpr h).length_eq
def rSetI (K : PySem.W.Frag) (w : World) : List V → Hp → VK → Prop := fun vs H Q => ∃ (a : Addr) (ns : List Int), vs = [V.ref a] ∧ SqL K H a (ns.map V.int) ∧ ns.length ≤ 4000 ∧ ∀ p n, H p = none → (∀ l : List Int, l.Nodup → (∀ k, k ∈ l ↔ k ∈ ns) → l.length = n) → Q (.ref p) (upd H p (SetO w p (fun j => decide (j ∈ ns)) n))
theorem cr_setI {X : Cx} (hc : X.calm = true) : CallR X (.type "set") (rSetI X.K X.w) := by
  intro pins s σ H vs us Q I r h
  obtain ⟨a, ns, rfl, hq, hl, q⟩ := h
  rw [Vals.ref1 r]
  obtain ⟨its, rv, pl, _⟩ := I.list hq
  refine set_of_list ns (I.ok.hd hc) pl.isList (by simpa using RZ.intsAre_vals rv) (by unfold scanBound; omega) fun h' tk c R k => ?_
  have hn : H s.heap.objs.size = none := I.hok.fresh (Nat.le_refl _)
  refine ⟨.ref s.heap.objs.size, _, I.laid (t' := tk) k (Nat.le_refl _) (setO_new R), rfl, q _ c hn fun l d hm => ?_⟩
  obtain ⟨o, es, ep, t, _, _, _, _, nd, hS, _, _, hn2, _⟩ := R
  have z := len_same d nd fun k => by
    rw [hm k]
    have y := hS k
    rw [decide_eq_true_iff] at y
    exact y
  rw [z, List.length_map, Array.length_toList]
  exact hn2
/-! ### the mirror -/
def insU (x : Int) : List Int → List Int
  | [] => [x]
  | y :: r => if x < y then x :: y :: r else if x = y then y :: r else y :: insU x r
def srtU (ns : List Int) : List Int := ns.foldr insU []
theorem mem_insU {x k : Int} : ∀ {l : List Int}, k ∈ insU x l ↔ k = x ∨ k ∈ l
  | [] => by simp [insU]
  | y :: r => by
    unfold insU
    split
    · simp
    · split
      · rename_i e; subst e; simp
      · simp only [List.mem_cons, mem_insU (l := r)]; constructor <;> (intro h; rcases h with h | h | h <;> simp [h])
theorem up_insU {x : Int} : ∀ {l : List Int}, l.Pairwise (· < ·) → (insU x l).Pairwise (· < ·)
  | [], _ => List.pairwise_singleton _ _
  | y :: r, h => by
    obtain ⟨h1, h2⟩ := List.pairwise_cons.mp h
    unfold insU
    split
    · rename_i e
      refine List.pairwise_cons.mpr ⟨fun z hz => ?_, h⟩
      rcases List.mem_cons.mp hz with e2 | e2
      · omega
      · have := h1 z e2; omega
    · split
      · exact h
      · refine List.pairwise_cons.mpr ⟨fun z hz => ?_, up_insU h2⟩
        rcases mem_insU.mp hz with e2 | e2
        · omega
        · exact h1 z e2
theorem up_srtU : ∀ (ns : List Int), (srtU ns).Pairwise (· < ·)
  | [] => .nil
  | _ :: r => up_insU (up_srtU r)
theorem mem_srtU {k : Int} : ∀ {ns : List Int}, k ∈ srtU ns ↔ k ∈ ns
  | [] => by simp [srtU]
  | n :: r => by
    have : srtU (n :: r) = insU n (srtU r) := rfl
    rw [this, mem_insU, mem_srtU (ns := r), List.mem_cons]
theorem up_nodup {l : List Int} (h : l.Pairwise (· < ·)) : l.Nodup := h.imp fun q e => by omega
theorem up_eq {l l' : List Int} (h : l.Pairwise (· < ·)) (h' : l'.Pairwise (· < ·)) (m : ∀ k, k ∈ l ↔ k ∈ l') : l = l' :=
  perm_sorted_eq ((List.perm_ext_iff_of_nodup (up_nodup h) (up_nodup h')).mpr m) (h.imp fun q => by omega) (h'.imp fun q => by omega)
def fSrtU : D → Option (List D)
  | .lst ds => (match intsD? ds with
    | some ns => if ns.length ≤ 4000 ∧ (srtU ns).length < 64 then some ((srtU ns).map D.int) else none
    | none => none)
  | _ => none
theorem jf_srtU {X : Cx} {W : WX} {e : Expr} {m : ME} {p p2 q pos : Pos} (hc : X.calm = true) (hg : Gl X "sorted") (hm : X.mg "sorted" = none) (hg2 : Gl X "set") (hm2 : X.mg "set" = none) (h : JB X W e m)
    (hs : starEach [e] X.env = (false, eval e X.env) :: starEach [] X.env := by rfl)
    (hs2 : starEach [Expr.Call (.Name "set" p2) [e] [] q] X.env = (false, eval (Expr.Call (.Name "set" p2) [e] [] q) X.env) :: starEach [] X.env := by rfl)
    (h2 : (backTo pos (starEach [] X.env)).any (·.1) = false := by rfl) (h3 : (backTo q (starEach [] X.env)).any (·.1) = false := by rfl) :
    JF X W (.Call (.Name "sorted" p) [.Call (.Name "set" p2) [e] [] q] [] pos) (mUnF fSrtU m) := by
  refine PE.imp (pe_callB (cr_sortedSet hc) hg hm rfl (pa_cons (pe_callTy (cr_setI hc) hg2 hm2 rfl (pa_cons h pa_nil hs) (by decide) (by decide) hs h3) pa_nil hs2) (by decide) (by decide) hs2 h2) fun σ H Q h => ?_
  obtain ⟨w, rfl, rfl, r, h⟩ := h
  refine run r h fun d s' G' v H' g r' pp h' => ?_
  cases hz : fSrtU d with
  | none => rw [hz] at h'; exact h'.elim
  | some z =>
    rw [hz] at h'
    unfold fSrtU at hz
    split at hz
    · rename_i ds
      split at hz
      · rename_i ns hb
        split at hz
        · rename_i hl
          cases hz
          obtain ⟨a, vs, rfl, hq, rs⟩ := AL.lst r' pp
          have e := ints_v rs hb
          subst e
          refine ⟨a, ns, rfl, hq, hl.1, fun p n hp hn => ?_⟩
          have en : (srtU ns).length = n := hn _ (up_nodup (up_srtU ns)) fun k => mem_srtU
          refine ⟨p, _, n, rfl, upd_same, by rw [← en]; exact hl.2, fun ns' q hu hm' hl' hq' => ?_⟩
          have e2 : ns' = srtU ns := up_eq hu (up_srtU ns) fun k => by rw [hm' k, mem_srtU]; simp
          subst e2
          have r2 := r'.alloc (o := SetO X.w p (fun j => decide (j ∈ ns)) n) hp
          exact h' _ _ _ (.refl _) (r2.alloc hq') (AF.new (w := { w with G := G', H := upd H' p _, s := s' }) r2 hq' (ints_rep _))
        · cases hz
      · cases hz
    · cases hz
end DL

/-! [elt for tg in iter if .. for tg1 in iter1 if ..] -/
namespace DL
open PySem PySem.Spec L2
theorem noX_w {s : S} {vs : List Nat} (hx : noX s = true) : noX (wipeS s vs) = true := by
  refine List.all_eq_true.mpr fun x hxm => ?_
  obtain ⟨i, hi⟩ := List.mem_iff_getElem?.mp hxm
  by_cases hv : i ∈ vs
  · rw [wipeS_emp hv hi]
  · have key : ∀ (vs : List Nat), i ∉ vs → (wipeS s vs).sl[i]? = s.sl[i]? := by
      intro vs
      induction vs with
      | nil => intro _; rfl
      | cons v vs ih =>
        intro hn
        simp only [List.mem_cons, not_or] at hn
        show ((wipeS s vs).sl.set v .emp)[i]? = _
        rw [List.getElem?_set_ne (Ne.symm hn.1), ih hn.2]
    rw [key vs hv] at hi
    exact List.all_eq_true.mp hx _ (List.mem_of_getElem? hi)
theorem repU_ix {K : PySem.W.Frag} {G : Gh} {vs : List Nat} : ∀ {lv : List (Nat × V)} {l : List (Nat × D)}, RepU K G lv l → (∀ q ∈ l, q.1 ∈ vs) → ∀ p ∈ lv, p.1 ∈ vs
  | _, _, .nil, _, p, hp => by cases hp
  | _, _, .cons a r, h, p, hp => by
    rcases List.mem_cons.mp hp with z | z
    · subst z; rw [a.1]; exact h _ List.mem_cons_self
    · exact repU_ix r (fun q hq => h q (List.mem_cons_of_mem _ hq)) p z
theorem wipe_in {i : Nat} : ∀ (vs : List Nat) (σ : L2.St), i ∈ vs → i < σ.length → (L2.wipe σ vs)[i]? = some none
  | [], _, h, _ => by cases h
  | v :: vs, σ, h, hl => by
    unfold L2.wipe
    by_cases e : v = i
    · subst e
      rw [List.getElem?_set_self (by rw [wipe_length]; exact hl)]
    · rw [List.getElem?_set_ne e]
      rcases List.mem_cons.mp h with z | z
      · exact (e z.symm).elim
      · exact wipe_in vs σ z hl
theorem wipe_sub {σ : L2.St} {vs vs1 : List Nat} (h : ∀ i ∈ vs1, i ∈ vs) : L2.wipe (L2.wipe σ vs1) vs = L2.wipe σ vs := by
  apply List.ext_getElem?
  intro i
  by_cases hi : i ∈ vs
  · by_cases hl : i < σ.length
    · rw [wipe_in vs _ hi (by rw [wipe_length]; exact hl), wipe_in vs σ hi hl]
    · rw [List.getElem?_eq_none (by rw [wipe_length, wipe_length]; omega), List.getElem?_eq_none (by rw [wipe_length]; omega)]
  · rw [wipe_out hi, wipe_out hi, wipe_out fun z => hi (h i z)]
section
variable {K : PySem.W.Frag} {g1 : MG} {t1 : MT} {m : ME} {ix1 vs1 : List Nat} {J : It}
/-- the second clause's loop -/
theorem lc_inner {w : Wd} {L : Addr} {us : List V} {acc accF ds : List D} {l : List (Addr × HO)} {sF : S} {Nx : Hp → Prop} (hix : ∀ i ∈ ix1, i ∈ vs1) (hgx : ∀ d l, g1 d = some l → ∀ p ∈ l, p.1 ∈ ix1) (r : Rel K [] w) (he : w.pr = (L, .lst us) :: l) (hl : ∀ q ∈ l, q.1 ≠ L)
    (rs : Reps K w.G us acc) (I : ItR K J w.G ds) (hx : noX w.s = true) (hok : lcs g1 t1 m vs1 acc ds (wipeS w.s vs1) = .ok accF sF)
    (hend : ∀ G3 s3 us3 H3, w.G.le G3 → Rel K [] { w with G := G3, σ := L2.wipe w.σ vs1, H := H3, s := s3, pr := (L, .lst us3) :: l } → Reps K G3 us3 accF → noX s3 = true → s3 = sF → Nx H3) :
    ∃ W1 : Nat → Nat → Hp → Prop, (∃ m, W1 0 m w.H) ∧ ∀ j k H, W1 j k H →
      (J.stop j H ∧ Nx H) ∨ (J.go j H ∧ ∃ Nx1 : Hp → Prop, (∀ H', Nx1 H' → ∃ k', k' < k ∧ W1 (j + 1) k' H') ∧ ∀ x H', J.yld j H x H' → tTg K g1 x (wipe w.σ vs1) H' fun σ3 H5 => wipe σ3 vs1 = wipe w.σ vs1 ∧ tG K [] WF AB t1 σ3 H5 fun b H6 =>
        if b = true then tG K [] WF (AR K) m σ3 H6 fun y H7 => ∃ acc, H7 L = some (.lst acc) ∧ acc.length < sizeLine ∧ Nx1 (upd H7 L (.lst (acc ++ [y]))) else Nx1 H6) := by
  have r0 : Rel K [] { w with G := w.G, σ := L2.wipe w.σ vs1, H := w.H, s := wipeS w.s vs1, pr := (L, .lst us) :: l } := by
    have z := Rel.wipe r vs1
    rw [← he]
    exact z
  refine ⟨fun i mm H => mm = ds.length - i ∧ i ≤ ds.length ∧ ∃ (G2 : Gh) (s2 : S) (acc2 : List D) (us2 : List V), w.G.le G2 ∧ Rel K [] { w with G := G2, σ := L2.wipe w.σ vs1, H := H, s := wipeS s2 vs1, pr := (L, .lst us2) :: l } ∧ Reps K G2 us2 acc2 ∧
    noX (wipeS s2 vs1) = true ∧ lcs g1 t1 m vs1 acc2 (ds.drop i) (wipeS s2 vs1) = .ok accF sF, ⟨_, rfl, Nat.zero_le _, w.G, w.s, acc, us, .refl _, r0, rs, noX_w hx, hok⟩, ?_⟩
  rintro i mm H2 ⟨rfl, hi, G2, s2, acc2, us2, g2, r2, rs2, hx2, h2⟩
  by_cases hlt : i < ds.length
  · have hd : ds[i]? = some ds[i] := List.getElem?_eq_getElem hlt
    have ed : ds.drop i = ds[i] :: ds.drop (i + 1) := List.drop_eq_getElem_cons hlt
    rw [ed] at h2
    refine .inr ⟨I.go _ _ r2 g2 i hlt, fun H => ∃ (G2 : Gh) (s2 : S) (acc2 : List D) (us2 : List V), w.G.le G2 ∧ Rel K [] { w with G := G2, σ := L2.wipe w.σ vs1, H := H, s := wipeS s2 vs1, pr := (L, .lst us2) :: l } ∧ Reps K G2 us2 acc2 ∧
      noX (wipeS s2 vs1) = true ∧ lcs g1 t1 m vs1 acc2 (ds.drop (i + 1)) (wipeS s2 vs1) = .ok accF sF, fun H' hw => ⟨_, by omega, rfl, hlt, hw⟩, fun x H3 y => ?_⟩
    obtain ⟨G3, g3, r3, p3⟩ := I.yld _ _ r2 g2 i _ x H3 hd y
    unfold lcs at h2
    cases hl2 : g1 ds[i] with
    | none => simp only [hl2] at h2; cases h2
    | some ll =>
      simp only [hl2] at h2
      refine ⟨[], _, ds[i], ll, rfl, r3, p3, hl2, fun lv hv => ?_⟩
      have hlv : ∀ p ∈ lv, p.1 ∈ vs1 := repU_ix hv fun q hq => hix _ (hgx _ _ hl2 q hq)
      have wσ : L2.wipe (upds (L2.wipe w.σ vs1) lv) vs1 = L2.wipe w.σ vs1 := by rw [wipe_upds hlv, wipe_wipe]
      refine ⟨wσ, ?_⟩
      have r4 := Rel.sets r3 hv
      cases ht : t1 ((wipeS s2 vs1).puts ll) with
      | exc y s5 => simp only [ht] at h2; cases h2
      | stuck => simp only [ht] at h2; cases h2
      | ok b s5 =>
        simp only [ht] at h2
        refine ⟨_, rfl, rfl, r4, ?_⟩
        show okG K [] WF AB _ _ (t1 ((wipeS s2 vs1).puts ll))
        rw [ht]
        intro G5 b5 H5 g5 r5 e5
        subst e5
        cases b5 with
        | false =>
          simp only [Bool.false_eq_true, if_false] at h2 ⊢
          split at h2
          · rename_i hx5
            have r6 := Rel.wipe r5 vs1
            dsimp only at r6
            rw [wσ] at r6
            exact ⟨G5, s5, acc2, us2, (g2.trans g3).trans g5, r6, rs2.mono (g3.trans g5), noX_w hx5, h2⟩
          · cases h2
        | true =>
          simp only [if_true] at h2 ⊢
          cases hm : m s5 with
          | exc y s6 => simp only [hm] at h2; cases h2
          | stuck => simp only [hm] at h2; cases h2
          | ok z s6 =>
            simp only [hm] at h2
            split at h2
            · rename_i hf
              refine ⟨_, rfl, rfl, r5, ?_⟩
              show okG K [] WF (AR K) _ _ (m s5)
              rw [hm]
              intro G6 y H6 g6 r6 p6
              have hH : H6 L = some (.lst us2) := (r6.pr (L, .lst us2) List.mem_cons_self).1
              refine ⟨us2, hH, ?_, ?_⟩
              · rw [rs2.length]; exact hf.1.line
              · have r7 := Rel.prPut (o' := .lst (us2 ++ [y])) r6 rfl hl
                have r8 := Rel.wipe r7 vs1
                dsimp only at r8
                rw [wσ] at r8
                exact ⟨G6, s6, acc2 ++ [z], us2 ++ [y], ((g2.trans g3).trans g5).trans g6, r8, (rs2.mono ((g3.trans g5).trans g6)).append (.cons p6 .nil), noX_w hf.2, h2⟩
            · cases h2
  · have e : i = ds.length := by omega
    subst e
    rw [List.drop_length] at h2
    unfold lcs at h2
    cases h2
    exact .inl ⟨I.stop _ _ r2 g2 _ (Nat.le_refl _), hend G2 _ us2 H2 g2 r2 rs2 hx2 rfl⟩
end
/-- the turns of the first clause -/
def lcs2 (g : MG) (t : MT) (it1 : MA) (g1 : MG) (t1 : MT) (m : ME) (vs vs1 : List Nat) : List D → List D → MA
  | acc, [] => fun s => .ok acc s
  | acc, d :: ds => fun s => match g d with
    | none => .stuck
    | some l => match t (s.puts l) with
      | .ok b s1 => if b then (match it1 s1 with
          | .ok es s2 => if noX s2 = true then (match lcs g1 t1 m vs1 acc es (wipeS s2 vs1) with
            | .ok acc' s3 => lcs2 g t it1 g1 t1 m vs vs1 acc' ds (wipeS s3 vs)
            | _ => .stuck) else .stuck
          | _ => .stuck) else if noX s1 = true then lcs2 g t it1 g1 t1 m vs vs1 acc ds (wipeS s1 vs) else .stuck
      | _ => .stuck
def mLc2 (it : MA) (g : MG) (t : MT) (it1 : MA) (g1 : MG) (t1 : MT) (m : ME) (vs vs1 : List Nat) : MA := bnd it fun ds s => if noX s = true then lcs2 g t it1 g1 t1 m vs vs1 [] ds (wipeS s vs) else .stuck
section
variable {X : Cx} {W : WX} {elt tg iter tg1 iter1 : Expr} {ifs ifs1 : List Expr} {scope : Scope} {own : List (Str × Nat)} {pos : Pos} {it it1 : MA} {g g1 : MG} {ix ix1 vs1 : List Nat} {t t1 : MT} {m : ME}
theorem lc2_run {σ : L2.St} {H : Hp} {Q : VK} {vs : List Nat} (hv1 : ∀ i ∈ vs1, i ∈ vs) (hix : ∀ i ∈ ix, i ∈ vs) (hgx : ∀ d l, g d = some l → ∀ p ∈ l, p.1 ∈ ix) (hix1 : ∀ i ∈ ix1, i ∈ vs1) (hgx1 : ∀ d l, g1 d = some l → ∀ p ∈ l, p.1 ∈ ix1) (h : tG X.K X.pn W (AF X.K) (mLc2 it g t it1 g1 t1 m vs vs1) σ H Q) :
    tLc2 (tG X.K X.pn W (AI X.K) it) (tTg X.K g) (tG X.K [] WF AB t) (tG X.K [] WF (AI X.K) it1) (tTg X.K g1) (tG X.K [] WF AB t1) (tG X.K [] WF (AR X.K) m) vs vs1 σ H Q := by
  obtain ⟨w, rfl, rfl, r, h⟩ := h
  refine run r h fun ds s' G' J H' g' r' I h' => ?_
  intro L hL
  split at h'
  · rename_i hx
    have r0 : Rel X.K [] { w with G := G', σ := L2.wipe w.σ vs, H := upd H' L (.lst []), s := wipeS s' vs, pr := (L, .lst []) :: w.pr } := Rel.prPush (w := { w with G := G', σ := L2.wipe w.σ vs, H := H', s := wipeS s' vs }) (Rel.wipe (Rel.pn r' hx) vs) hL
    have hl : ∀ q ∈ w.pr, q.1 ≠ L := fun q hq => Rel.noP r' hL q hq
    refine ⟨fun i mm H => mm = ds.length - i ∧ i ≤ ds.length ∧ ∃ (G2 : Gh) (s2 : S) (acc : List D) (us : List V), G'.le G2 ∧ Rel X.K [] { w with G := G2, σ := L2.wipe w.σ vs, H := H, s := wipeS s2 vs, pr := (L, .lst us) :: w.pr } ∧ Reps X.K G2 us acc ∧
      noX (wipeS s2 vs) = true ∧ okG X.K X.pn W (AF X.K) { w with G := G2, H := H, s := wipeS s2 vs } Q (lcs2 g t it1 g1 t1 m vs vs1 acc (ds.drop i) (wipeS s2 vs)), ⟨_, rfl, Nat.zero_le _, G', s', [], [], .refl _, r0, .nil, noX_w hx, okG.up (w := { w with G := G', H := H', s := s' }) h' (.refl _)⟩, ?_⟩
    rintro i mm H2 ⟨rfl, hi, G2, s2, acc, us, g2, r2, rs, hx2, h2⟩
    by_cases hlt : i < ds.length
    · have hd : ds[i]? = some ds[i] := List.getElem?_eq_getElem hlt
      have ed : ds.drop i = ds[i] :: ds.drop (i + 1) := List.drop_eq_getElem_cons hlt
      rw [ed] at h2
      refine .inr ⟨I.go _ _ r2 g2 i hlt, fun H => ∃ (G2 : Gh) (s2 : S) (acc : List D) (us : List V), G'.le G2 ∧ Rel X.K [] { w with G := G2, σ := L2.wipe w.σ vs, H := H, s := wipeS s2 vs, pr := (L, .lst us) :: w.pr } ∧ Reps X.K G2 us acc ∧
          noX (wipeS s2 vs) = true ∧ okG X.K X.pn W (AF X.K) { w with G := G2, H := H, s := wipeS s2 vs } Q (lcs2 g t it1 g1 t1 m vs vs1 acc (ds.drop (i + 1)) (wipeS s2 vs)), fun H' hw => ⟨_, by omega, rfl, hlt, hw⟩, fun x H3 y => ?_⟩
      obtain ⟨G3, g3, r3, p3⟩ := I.yld _ _ r2 g2 i _ x H3 hd y
      unfold lcs2 at h2
      cases hl2 : g ds[i] with
      | none => simp only [hl2] at h2; exact h2.elim
      | some l =>
        simp only [hl2] at h2
        refine ⟨[], _, ds[i], l, rfl, r3, p3, hl2, fun lv hv => ?_⟩
        have hlv : ∀ p ∈ lv, p.1 ∈ vs := repU_ix hv fun q hq => hix _ (hgx _ _ hl2 q hq)
        have wσ : L2.wipe (upds (L2.wipe w.σ vs) lv) vs = L2.wipe w.σ vs := by rw [wipe_upds hlv, wipe_wipe]
        refine ⟨wσ, ?_⟩
        have r4 := Rel.sets r3 hv
        cases ht : t ((wipeS s2 vs).puts l) with
        | exc y s5 => simp only [ht] at h2; exact h2.elim
        | stuck => simp only [ht] at h2; exact h2.elim
        | ok b s5 =>
          simp only [ht] at h2
          refine ⟨_, rfl, rfl, r4, ?_⟩
          show okG X.K [] WF AB _ _ (t ((wipeS s2 vs).puts l))
          rw [ht]
          intro G5 b5 H5 g5 r5 e5
          subst e5
          cases b5 with
          | false =>
            simp only [Bool.false_eq_true, if_false] at h2 ⊢
            split at h2
            · rename_i hx5
              have r6 := Rel.wipe r5 vs
              dsimp only at r6
              rw [wσ] at r6
              exact ⟨G5, s5, acc, us, (g2.trans g3).trans g5, r6, rs.mono (g3.trans g5), noX_w hx5, okG.up (w := { w with G := G2, H := H2, s := wipeS s2 vs }) h2 (g3.trans g5)⟩
            · exact h2.elim
          | true =>
            simp only [if_true] at h2 ⊢
            cases hi1 : it1 s5 with
            | exc y s6 => simp only [hi1] at h2; exact h2.elim
            | stuck => simp only [hi1] at h2; exact h2.elim
            | ok es s6 =>
              simp only [hi1] at h2
              split at h2
              · rename_i hx6
                cases hq : lcs g1 t1 m vs1 acc es (wipeS s6 vs1) with
                | exc y s7 => simp only [hq] at h2; exact h2.elim
                | stuck => simp only [hq] at h2; exact h2.elim
                | ok acc7 s7 =>
                  simp only [hq] at h2
                  refine ⟨_, rfl, rfl, r5, ?_⟩
                  show okG X.K [] WF (AI X.K) _ _ (it1 s5)
                  rw [hi1]
                  intro G6 J1 H6 g6 r6 I6
                  refine lc_inner (w := { w with G := G6, σ := upds (L2.wipe w.σ vs) lv, H := H6, s := s6, pr := (L, .lst us) :: w.pr }) hix1 hgx1 r6 rfl hl (rs.mono ((g3.trans g5).trans g6)) I6 hx6 hq fun G8 s8 us8 H8 g8 r8 rs8 hx8 e8 => ?_
                  subst e8
                  have r9 := Rel.wipe r8 vs
                  dsimp only at r9
                  rw [wipe_sub hv1, wσ] at r9
                  exact ⟨G8, _, acc7, us8, (((g2.trans g3).trans g5).trans g6).trans g8, r9, rs8, noX_w hx8, okG.up (w := { w with G := G2, H := H2, s := wipeS s2 vs }) h2 (((g3.trans g5).trans g6).trans g8)⟩
              · exact h2.elim
    · have e : i = ds.length := by omega
      subst e
      rw [List.drop_length] at h2
      refine .inl ⟨I.stop _ _ r2 g2 _ (Nat.le_refl _), ?_⟩
      obtain ⟨r9, a9⟩ := Rel.prPop r2 rfl hl rs
      have r10 := Rel.unwipe (w := { w with G := G2, H := H2 }) (σ := w.σ) (s := s2) (vs := vs) r9
      have a10 : AF X.K { w with G := G2, H := H2, s := wipeS s2 vs } (.ref L) acc := by
        obtain ⟨a, us', e1, e2, e3, e4, e5, e6, e7, e8⟩ := a9
        refine ⟨a, us', e1, e2, e3, e4, e5, e6, fun i es q1 q2 => ?_, e8⟩
        have : i ∉ vs := fun hi => by cases wipeS_emp hi q1
        exact e7 i es q1 ((wipe_out this).trans q2)
      exact h2 G2 _ H2 (.refl _) (Rel.pn r10 hx2) a10
  · exact h'.elim
theorem jf_lc2 (hc : X.calm = true) (hN : X.N.Nodup) (hi : JI X W tg iter it) (ok : BlkOk X.N X.env.scope scope own)
    (hg : ∀ (s : Shared) (H : Hp) (C : Addr) (cl : List (Str × Addr)) (fp : List Addr), JG (X.blk s H scope (compEnvC scope cl C X.env) fp) tg g ix) (ht : ∀ (s : Shared) (H : Hp) (C : Addr) (cl : List (Str × Addr)) (fp : List Addr), JTs (X.blk s H scope (compEnvC scope cl C X.env) fp) WF ifs t)
    (hi1 : ∀ (s : Shared) (H : Hp) (C : Addr) (cl : List (Str × Addr)) (fp : List Addr), JI (X.blk s H scope (compEnvC scope cl C X.env) fp) WF tg1 iter1 it1)
    (hg1 : ∀ (s : Shared) (H : Hp) (C : Addr) (cl : List (Str × Addr)) (fp : List Addr), JG (X.blk s H scope (compEnvC scope cl C X.env) fp) tg1 g1 ix1) (ht1 : ∀ (s : Shared) (H : Hp) (C : Addr) (cl : List (Str × Addr)) (fp : List Addr), JTs (X.blk s H scope (compEnvC scope cl C X.env) fp) WF ifs1 t1)
    (he : ∀ (s : Shared) (H : Hp) (C : Addr) (cl : List (Str × Addr)) (fp : List Addr), JE (X.blk s H scope (compEnvC scope cl C X.env) fp) WF elt m) (hix : ∀ i ∈ ix, i ∈ own.map (·.2) := by decide) (hv1 : ∀ i ∈ ix1, i ∈ own.map (·.2) := by decide)
    (hs : ∀ x, foldedSetIterable iter X.env x = pure x := by intro _; rfl) (hs1 : ∀ env x, foldedSetIterable iter1 env x = pure x := by intro _ _; rfl) :
    JF X W (.ListComp elt [⟨tg, iter, ifs, 0⟩, ⟨tg1, iter1, ifs1, 0⟩] scope pos) (mLc2 it g t it1 g1 t1 m (own.map (·.2)) ix1) := by
  have hgx : ∀ d l, g d = some l → ∀ p ∈ l, p.1 ∈ ix := (hg (X.s_0) (X.H_0) 0 [] []).ix
  have hgx1 : ∀ d l, g1 d = some l → ∀ p ∈ l, p.1 ∈ ix1 := (hg1 (X.s_0) (X.H_0) 0 [] []).ix
  exact PE.imp (pe_lc2 (vs1 := ix1) (g := tTg X.K g) (tt := tG X.K [] WF AB t) (wi1 := tG X.K [] WF (AI X.K) it1) (g1 := tTg X.K g1) (tt1 := tG X.K [] WF AB t1) (te := tG X.K [] WF (AR X.K) m) hc hN hi ok hv1 (fun s H C cl fp => (hg s H C cl fp).pg) (fun s H C cl fp => ht s H C cl fp) (fun s H C cl fp => hi1 s H C cl fp) (fun s H C cl fp => (hg1 s H C cl fp).pg) (fun s H C cl fp => ht1 s H C cl fp) (fun s H C cl fp => he s H C cl fp) hs hs1) fun σ H Q h => lc2_run hv1 hix hgx (fun i hi => hi) hgx1 h
end
end DL

namespace DL
open PySem PySem.Spec L2
/-! ### written tuples under a global name -/
mutual
def ktB (K : PySem.W.Frag) : Value → D → Bool
  | .none, .non => true
  | .bool b, .bl c => b == c
  | .int i _, .int j => decide (i = j)
  | .str x _, .str y => decide (x = y)
  | .ref a, .kt ds => (match K.lookup a with
    | some ⟨.type c, _, .seq its _, _⟩ => decide (c = "tuple") && (decide (its.size ≤ sizeLine) && ktsB K its.toList ds)
    | _ => false)
  | _, _ => false
def ktsB (K : PySem.W.Frag) : List Value → List D → Bool
  | [], [] => true
  | v :: vs, d :: ds => ktB K v d && ktsB K vs ds
  | _, _ => false
end
mutual
theorem ktB_ok {K : PySem.W.Frag} : ∀ {v : Value} {d : D}, ktB K v d = true → ∃ u, RelV u v ∧ ∀ G, Rep K G u d
  | v, .non, h => by
    cases v <;> first | exact ⟨.non, rfl, fun _ => .non⟩ | (simp [ktB] at h; done)
  | v, .bl c, h => by
    cases v with
    | bool b =>
      have e : b = c := by simpa [ktB] using h
      subst e
      exact ⟨.bl b, rfl, fun _ => .bl _⟩
    | _ => simp [ktB] at h
  | v, .int j, h => by
    cases v with
    | int i t =>
      have e : i = j := by simpa [ktB] using h
      subst e
      exact ⟨.int i, ⟨t, rfl⟩, fun _ => .int _⟩
    | _ => simp [ktB] at h
  | v, .str y, h => by
    cases v with
    | str x t =>
      have e : x = y := by simpa [ktB] using h
      subst e
      exact ⟨.str x, ⟨t, rfl⟩, fun _ => .str _⟩
    | _ => simp [ktB] at h
  | v, .kt ds, h => by
    cases v with
    | ref a =>
      unfold ktB at h
      split at h
      · rename_i c dd its n sl hk
        obtain ⟨h1, h⟩ := He.ba h
        obtain ⟨h2, h3⟩ := He.ba h
        have e := of_decide_eq_true h1
        subst e
        obtain ⟨us, r, p⟩ := ktsB_ok h3
        exact ⟨.ref a, rfl, fun G => .kt (.inr ⟨_, its, n, hk, rfl, rfl, of_decide_eq_true h2, r⟩) (p G)⟩
      · cases h
    | _ => simp [ktB] at h
  | v, .tup _, h => by cases v <;> simp [ktB] at h
  | v, .lst _, h => by cases v <;> simp [ktB] at h
  | v, .kl _, h => by cases v <;> simp [ktB] at h
  | v, .nod, h => by cases v <;> simp [ktB] at h
  | v, .loc _, h => by cases v <;> simp [ktB] at h
  | v, .ins _ _, h => by cases v <;> simp [ktB] at h
theorem ktsB_ok {K : PySem.W.Frag} : ∀ {vs : List Value} {ds : List D}, ktsB K vs ds = true → ∃ us, Vals us vs ∧ ∀ G, Reps K G us ds
  | [], [], _ => ⟨[], .nil, fun _ => .nil⟩
  | [], _ :: _, h => by simp [ktsB] at h
  | _ :: _, [], h => by simp [ktsB] at h
  | v :: vs, d :: ds, h => by
    unfold ktsB at h
    obtain ⟨h1, h2⟩ := He.ba h
    obtain ⟨u, r, p⟩ := ktB_ok h1
    obtain ⟨us, rs, ps⟩ := ktsB_ok h2
    exact ⟨u :: us, .cons r rs, fun G => .cons (p G) (ps G)⟩
end
/-- the global x is the written tuple d -/
def gkB (x : Str) (d : D) (K : PySem.W.Frag) : Bool := ktB K (.ref (He.ga K x)) d
def GK (K : PySem.W.Frag) (x : Str) (d : D) : Prop := ∀ G, Rep K G (.ref (He.ga K x)) d
theorem gkB_ok {K : PySem.W.Frag} {x : Str} {d : D} (h : gkB x d K = true) : GK K x d := by
  obtain ⟨u, r, p⟩ := ktB_ok h
  intro G
  cases u with
  | ref a => cases r; exact p G
  | non => cases r
  | bl _ => cases r
  | int _ => obtain ⟨_, q⟩ := r; cases q
  | str _ => obtain ⟨_, q⟩ := r; cases q
  | byt _ => obtain ⟨_, q⟩ := r; cases q
  | flt _ => obtain ⟨_, q⟩ := r; cases q
  | ty _ => cases r
theorem je_gk {X : Cx} {W : WX} {x : Str} {d : D} {pos : Pos} (hR : GK X.K x d) (hg : Gl X x) (hm : X.mg x = some (.ref (He.ga X.K x))) (hd : (x == ("__debug__" : Str)) = false := by decide) : JE X W (.Name x pos) (mC d) := je_c (v := .ref (He.ga X.K x)) (pe_glob hg hm rfl hd) hR
/-! ### min(a, b) -/
def mMin2 (m : MA) : ME := bnd m fun ds s => match ds with
  | [.int i, .int j] => .ok (.int (if j < i then j else i)) s
  | _ => .stuck
theorem je_min2 {X : Cx} {W : WX} {a b : Expr} {m : MA} {p pos : Pos} (hc : X.calm = true) (hg : Gl X "min") (hm : X.mg "min" = none) (h : JA X W [a, b] m) (h1 : starEach [a, b] X.env = (false, eval a X.env) :: starEach [b] X.env := by rfl) (h2 : (backTo pos (starEach [b] X.env)).any (·.1) = false := by rfl) :
    JE X W (.Call (.Name "min" p) [a, b] [] pos) (mMin2 m) := by
  refine PE.imp (pe_callB (call_min2 hc) hg hm rfl h.pa (by decide) (by decide) h1 h2) fun σ H Q h => ?_
  obtain ⟨w, rfl, rfl, r, h⟩ := h
  refine run' r h fun ds s' G' vs H' hm2 g r' q h' => ?_
  split at h'
  · rename_i i j
    cases q with
    | cons p1 q =>
      cases q with
      | cons p2 q =>
        cases q
        cases p1
        cases p2
        exact ⟨i, j, rfl, fin r' h' (.int _)⟩
  · exact h'.elim
/-! ### isinstance(x, (T, U)) -/
theorem kit2 {K : PySem.W.Frag} {a b c : String} (ha : a ∈ tysL) (hb : b ∈ tysR) (hc : c ∈ tysR) : PySem.W.kitAny K (.type a) [.type b, .type c] = some ([b, c].any (subT a)) := by
  unfold PySem.W.kitAny
  rw [kit_tb ha hb]
  cases h : subT a b with
  | true => simp [h]
  | false =>
    dsimp only
    unfold PySem.W.kitAny
    rw [kit_tb ha hc]
    cases h2 : subT a c with
    | true => simp [h, h2]
    | false => simp [h, h2, PySem.W.kitAny]
theorem je_isi2 {X : Cx} {W : WX} {e : Expr} {m : ME} {x y : Str} {T U : String} {p pos q q2 tp : Pos} {kk : Nat} (hT : T ∈ tysR) (hU : U ∈ tysR) (hg : Gl X "isinstance") (hm : X.mg "isinstance" = none) (hgT : Gl X x) (hmT : X.mg x = none) (hvT : bootBuiltins x = some (.type T)) (hgU : Gl X y) (hmU : X.mg y = none) (hvU : bootBuiltins y = some (.type U)) (h : JE X W e m)
    (hn : x ≠ "__name__" := by decide) (hdb : (x == ("__debug__" : Str)) = false := by decide) (hn2 : y ≠ "__name__" := by decide) (hdb2 : (y == ("__debug__" : Str)) = false := by decide)
    (t1 : starEach [.Name x q, .Name y q2] X.env = (false, eval (.Name x q) X.env) :: starEach [.Name y q2] X.env := by rfl) (t2 : starEach [.Name y q2] X.env = (false, eval (.Name y q2) X.env) :: starEach [] X.env := by rfl)
    (hs : starEach [e, .Tuple [.Name x q, .Name y q2] kk tp] X.env = (false, eval e X.env) :: starEach [.Tuple [.Name x q, .Name y q2] kk tp] X.env := by rfl) (hs2 : starEach [.Tuple [.Name x q, .Name y q2] kk tp] X.env = (false, eval (.Tuple [.Name x q, .Name y q2] kk tp) X.env) :: starEach [] X.env := by rfl) (h2 : (backTo pos (starEach [.Tuple [.Name x q, .Name y q2] kk tp] X.env)).any (·.1) = false := by rfl) :
    JE X W (.Call (.Name "isinstance" p) [e, .Tuple [.Name x q, .Name y q2] kk tp] [] pos) (mUn (fIsiA [T, U]) m) := by
  refine PE.imp (pe_callB call_isiT hg hm rfl (pa_cons h (pa_cons (pe_tup (pa_cons (pe_tyN hgT hmT hvT hn hdb) (pa_cons (pe_tyN hgU hmU hvU hn2 hdb2) pa_nil t2) t1)) pa_nil hs2) hs) (by decide) (by decide) hs h2) fun σ H Q h => ?_
  obtain ⟨w, rfl, rfl, r, h⟩ := h
  refine run r h fun d s' G' v H' g r' pp h' => ?_
  unfold fIsiA at h'
  cases ht : tyD d with
  | none => rw [ht] at h'; exact h'.elim
  | some t =>
    rw [ht] at h'
    refine ⟨by show 2 ≤ sizeLine; decide, fun tpA hp => ?_⟩
    have r2 := r'.alloc (o := .tup [.ty T, .ty U]) hp
    exact ⟨v, tpA, [.ty T, .ty U], .type t, [.type T, .type U], _, rfl, upd_same, .cons (.ty T) (.cons (.ty U) .nil), tyx_of (w := { w with G := G', H := upd H' tpA _, s := s' }) r2 (.inl pp) ht, kit2 (tyD_in ht) hT hU, h' _ _ _ (.refl _) r2 (.bl _)⟩
/-! ### a class of the module: what is asked of it, its methods -/
def ownB (c m : Str) (K : PySem.W.Frag) : Bool := (match PySem.W.clsIn K (He.ga K c) with
  | some cd => (match cd.mro with
    | v :: _ => decide (v = .ref (He.ga K c))
    | [] => false)
  | none => false) && (He.eqO (PySem.W.findIn K (.ref (He.ga K c)) m) (some (some (.ref (He.ma K (He.ga K c) m)))) && decide (PySem.W.typeIn K (.ref (He.ma K (He.ga K c) m)) = some (.type "function")))
theorem ownB_ok {K : PySem.W.Frag} {c m : Str} (h : ownB c m K = true) : Own K (He.ga K c) (He.ma K (He.ga K c) m) m := by
  obtain ⟨h1, h⟩ := He.ba h
  obtain ⟨h2, h3⟩ := He.ba h
  refine ⟨?_, He.eqO_ok h2, of_decide_eq_true h3⟩
  split at h1
  · rename_i cd hc
    split at h1
    · rename_i v r hm
      exact ⟨cd, r, hc, by rw [hm, of_decide_eq_true h1]⟩
    · cases h1
  · cases h1
def isCB (c : Str) (K : PySem.W.Frag) : Bool := He.eqO (PySem.W.findIn K (.ref (He.ga K c)) "__class__") (some (some (.builtin "object.__class__"))) && (He.eqO (PySem.W.specialIn K (.builtin "object.__class__") "__get__") (some (some (.builtin "getset_descriptor.__get__"))) && (decide (PySem.W.takesIn K (.builtin "object.__class__") = some true) && (decide (PySem.W.mroIn K (He.ga K c) (.type "object") = some true) &&
  (decide (PySem.W.kitOne K (.ref (He.ga K c)) (.ref (He.ga K c)) = some true) && tysL.all fun t => decide (PySem.W.kitOne K (.type t) (.ref (He.ga K c)) = some false)))))
theorem isCB_ok {K : PySem.W.Frag} {c : Str} (hC : Cls K (He.ga K c)) (h : isCB c K = true) : IsC K c := by
  obtain ⟨h1, h⟩ := He.ba h
  obtain ⟨h2, h⟩ := He.ba h
  obtain ⟨h3, h⟩ := He.ba h
  obtain ⟨h4, h⟩ := He.ba h
  obtain ⟨h5, h6⟩ := He.ba h
  exact ⟨hC, fun H a dx fs e => .base (.ins e hC (He.eqO_ok h1) (He.eqO_ok h2) (of_decide_eq_true h3) (of_decide_eq_true h4)), of_decide_eq_true h5, fun t ht => of_decide_eq_true (List.all_eq_true.mp h6 t ht)⟩
/-- what is known of a class: it can be made, looked at, asked after -/
structure KC (K : PySem.W.Frag) (mg : Str → Option Value) (c : Str) : Prop where
  cl : Cls K (He.ga K c)
  is : IsC K c
  mak : Mk K (He.ga K c) (He.ma K (He.ga K c) "__init__")
  mg : mg c = some (.ref (He.ga K c))
/-- what is known of a method -/
def KnM (P : Program) (w : World) (K : PySem.W.Frag) (mg : Str → Option Value) (base : Heap) (c m : Str) (k : Nat) (ps : List Str) (fn : Fn) : Prop := ∃ fd, FnOk P w K mg base (L2.CX P w) k (He.ma K (He.ga K c) m) fd ps (spF K ps.length fn) ∧ Binds K fd ps []
def clsDef (st : Stmt) (j : Nat) : Stmt := match st with
  | .ClassDef _ _ _ body _ _ _ _ _ _ _ => body.getD j (.Pass ⟨0, 0, 0, 0⟩)
  | _ => .Pass ⟨0, 0, 0, 0⟩
section
variable {P : Program} {w : World} {K : PySem.W.Frag} {mg : Str → Option Value} {base : Heap} {c x q : Str} {st : Stmt} {dvs : List V}
/-- the method, as the written part has it -/
def MtW (K : PySem.W.Frag) (c x q : Str) (st : Stmt) (dvs : List V) : Prop := ∃ fd, FunD K x q (defArgs st) (defBody st) (defScope st) dvs [] (He.ma K (He.ga K c) x) fd
theorem knM_ok {N ps : List Str} {k : Nat} {m : MS} (F : MtW K c x q st dvs) (Sc : FnScope N ps (defScope st))
    (hbn : ∀ fd, FunD K x q (defArgs st) (defBody st) (defScope st) dvs [] (He.ma K (He.ga K c) x) fd → Binds K fd ps [])
    (hb : ∀ (cdv : Value) (A : Around) (outer : List Env) (s : Shared) (H : Hp) (E : XK), Room k (A.deeper (PyProof.Rows.envOfC q (defScope st) s.heap.objs.size (He.ma K (He.ga K c) x) cdv)) →
      Takes (cxOf (L2.CX P w) P w K mg base N q (defScope st) (He.ma K (He.ga K c) x) cdv A outer s H E) (fun c d _ H => E c d H) → PassesOwn (model P w) (A.deeper (PyProof.Rows.envOfC q (defScope st) s.heap.objs.size (He.ma K (He.ga K c) x) cdv)) (PyProof.Rows.envOfC q (defScope st) s.heap.objs.size (He.ma K (He.ga K c) x) cdv) (cxOf (L2.CX P w) P w K mg base N q (defScope st) (He.ma K (He.ga K c) x) cdv A outer s H E).xe →
      (A.deeper (PyProof.Rows.envOfC q (defScope st) s.heap.objs.size (He.ma K (He.ga K c) x) cdv)).units + 64 < cLine → (A.deeper (PyProof.Rows.envOfC q (defScope st) s.heap.objs.size (He.ma K (He.ga K c) x) cdv)).units + 1 < cLine →
      JSs (cxOf (L2.CX P w) P w K mg base N q (defScope st) (He.ma K (He.ga K c) x) cdv A outer s H E) (fun c d _ H => E c d H) (defBody st) m) :
    KnM P w K mg base c x (k + 1) ps (fnM N.length m) := by
  obtain ⟨fd, F⟩ := F
  refine ⟨fd, fn_ok F Sc fun cdv A outer s H E hr => ?_, hbn fd F⟩
  exact hb cdv A outer s H E hr (takes_of rfl rfl rfl rfl) (passes_of (X := cxOf (L2.CX P w) P w K mg base N q (defScope st) (He.ma K (He.ga K c) x) cdv A outer s H E) rfl) (by have := hr.un; omega) (by have := hr.un; omega)
/-- all parameters are handed in, though the last one has a default -/
theorem binds_full {ps : List Str} {fd : FuncData} {d0 : V} (F : FunD K x q (defArgs st) (defBody st) (defScope st) [d0] [] (He.ma K (He.ga K c) x) fd)
    (h : ∀ (T : Addr) (kV doc pm : Value) (an : Option Addr) (cdv ct : Value) (us its : List Value), us.length = ps.length → its.length = 1 →
      ∃ k, bindArgs (PySem.W.fnOf x q (defArgs st) (defBody st) (defScope st) (.ref T) kV doc pm an cdv ct) ⟨us, []⟩ = seqItems? (.ref T) >>= k ∧ k (some its.toArray) = pure (ps.zip (us ++ its.drop 1))) : Binds K fd ps [] := by
  obtain ⟨ds, h1, h2⟩ := F.binds1 ps.length 1 (by simp) (by simp) h
  cases h1
  exact h2
end
section
variable {X : Cx} {W : WX} {k : Nat} {ps : List Str} {fn : Fn} {c nm : Str} {a b e : Expr} {es : List Expr} {ma mb m : ME} {mm : MA} {p pos : Pos}
theorem je_makeK (C : KC X.K X.mg c) (F : KnM X.prog X.w X.K X.mg X.base c "__init__" k ps fn) (hr : Room (k + 1) X.A) (tk : Takes X W) (hg : Gl X c) (ha : JA X W (e :: es) mm) (hl : (e :: es).length + 1 = ps.length := by rfl) (hdb : (c == ("__debug__" : Str)) = false := by decide) (he : starEach (e :: es) X.env = (false, eval e X.env) :: starEach es X.env := by rfl) (hpl : (backTo pos (starEach es X.env)).any (·.1) = false := by rfl) :
    JE X W (.Call (.Name c p) (e :: es) [] pos) (mMake c fn mm) := by
  obtain ⟨fd, F, hb⟩ := F
  exact je_make C.mak F hr tk hg C.mg hb ha hl hdb he hpl
theorem je_op2K {op : Operator} (o : Own X.K (He.ga X.K c) (He.ma X.K (He.ga X.K c) nm) nm) (hnm : nm = PySem.dunder op.info.2) (F : KnM X.prog X.w X.K X.mg X.base c nm k ps fn) (hr : Room k X.A) (tk : Takes X W) (ha : JE X W a ma) (hb' : JE X W b mb) (hl : 2 = ps.length := by rfl) : JE X W (.BinOp a op b pos) (mOp2 c fn ma mb) := by
  subst hnm
  obtain ⟨fd, F, hb⟩ := F
  exact je_op2 o F hr tk hb ha hb' hl
theorem je_op1K {op : UnaryOp} (hop : (op = .Invert ∧ nm = "__invert__") ∨ (op = .USub ∧ nm = "__neg__")) (o : Own X.K (He.ga X.K c) (He.ma X.K (He.ga X.K c) nm) nm) (F : KnM X.prog X.w X.K X.mg X.base c nm k ps fn) (hr : Room k X.A) (tk : Takes X W) (ha : JE X W a ma) (hl : 1 = ps.length := by rfl) : JE X W (.UnaryOp op a pos) (mOp1 c fn ma) := by
  obtain ⟨fd, F, hb⟩ := F
  exact je_op1 hop o F hr tk hb ha hl
theorem js_augK {op : Operator} {i : Nat} {x : Str} {pos' : Pos} (hN : X.N.Nodup) (hi : X.N[i]? = some x) (hx : Loc X.env.scope x) (o : Own X.K (He.ga X.K c) (He.ma X.K (He.ga X.K c) nm) nm) (hnm : nm = PySem.dunderI op.info.2) (F : KnM X.prog X.w X.K X.mg X.base c nm k ps fn) (hr : Room k X.A) (he : JE X W e m) (hl : 2 = ps.length := by rfl) (hf : X.fn x = true ∨ X.env.scope.names.lookup x = some .local := by first | exact .inl rfl | exact .inr rfl) : JS X W (.AugAssign (.Name x pos') op e pos) (mAugO i c fn m) := by
  subst hnm
  obtain ⟨fd, F, hb⟩ := F
  exact js_augO hN hi hx o F hr hb he hl hf
end
end DL

namespace DL
open PySem PySem.Spec L2
/-! ### a, b, c = x, y, z -/
def mPar3 (i j l : Nat) (m : MA) : MS := bnd m fun ds s => match ds with
  | [d, e, f] => .ok .nx (((s.put i (.imm d)).put j (.imm e)).put l (.imm f))
  | _ => .stuck
section
variable {X : Cx} {W : WX} {a b c : Expr} {m : MA} {pos : Pos}
theorem js_par3 {i j l : Nat} {x y z : Str} {px py pz pt : Pos} {kt k2 pt2} (hc : X.calm = true) (hN : X.N.Nodup) (hi : X.N[i]? = some x) (hj : X.N[j]? = some y) (hl : X.N[l]? = some z) (hij : i ≠ j) (hil : i ≠ l) (hjl : j ≠ l)
    (hx : X.env.scope.names.lookup x = some .local) (hy : X.env.scope.names.lookup y = some .local) (hz : X.env.scope.names.lookup z = some .local) (ha : JA X W [a, b, c] m)
    (hw : swappedStores [.Tuple [.Name x px, .Name y py, .Name z pz] kt pt] (.Tuple [a, b, c] k2 pt2) X.env = pure (some [x, y, z]))
    (hs : swapsWithSole [.Tuple [.Name x px, .Name y py, .Name z pz] kt pt] (.Tuple [a, b, c] k2 pt2) pos.line X.env = pure false := by rfl) :
    JS X W (.Assign [.Tuple [.Name x px, .Name y py, .Name z pz] kt pt] (.Tuple [a, b, c] k2 pt2) pos) (mPar3 i j l m) := by
  refine PS.imp (ps_par3 hc hN hi hj hl hij hil hjl hx hy hz ha.pa hw hs) fun D σ H h => ?_
  obtain ⟨w, rfl, rfl, r, h⟩ := h
  refine runS r h fun ds s' G' vs H' g r' p h' => ?_
  split at h'
  · cases p with
    | cons p1 p2 =>
      cases p2 with
      | cons p2 p3 =>
        cases p3 with
        | cons p3 p4 =>
          cases p4
          refine ⟨_, _, _, rfl, h' G' _ H' (.refl _) ?_⟩
          exact Rel.set (w := { w with G := G', σ := (w.σ.set i (some _)).set j (some _), H := H', s := (s'.put i (.imm _)).put j (.imm _) }) (Rel.set (w := { w with G := G', σ := w.σ.set i (some _), H := H', s := s'.put i (.imm _) }) (r'.set p1) p2) p3
  · exact h'.elim
end
end DL

/-! mirrors that the laws about spans share -/
namespace LC
open DL
noncomputable section
/-! _law_span_is(_law_span, _law_stretches_here): slots _law_span, _law_stretches_here, _law_told, _law_pair, _law_low, _law_high -/
def m__law_span_is : MS := (mSeq (mSet 2 (mFld "Span" "stretches" (mVar 0)))
  (mSeq (mIfS (mOrT (mNotT (mTru (mUn (fIsi "tuple") (mLook 2)))) (mOrT (mBl (mNeV 2 (mVar 1))) (mNotT (mTru (mUn fAll (mFz (mLc (mIt (mVar 2)) (gNm 3) mYes (mUn (fIsi "tuple") (mLook 3)) [3]))))))) (mRet (mC (.bl false))) mPass)
  (mRet (mUn fAll (mFz (mLc (mIt (mVar 2)) (gTp 2 (gsCons (gNm 4) (gsCons (gNm 5) gsNil))) mYes (mAnd (mCall f__law_whole (mCons (mVar 4) mNil)) (mOr (mBin fIsN (mVar 5) (mC .non)) (mCall f__law_whole (mCons (mVar 5) mNil)))) [4, 5]))))))
def f__law_span_is : Fn := fnM 6 m__law_span_is
/-! _law_highs(_law_lows): slots _law_lows, _law_low -/
def m__law_highs : MS := (mRet (mFz (mBinF lAddL (mFz (mLc (mIt (mSlN 0 (mPart (mC (.int 1))) mNoP)) (gNm 1) mYes (mBin iSub (mVar 1) (mC (.int 1))) [1])) (mFz (mLst (mCons (mC .non) mNil))))))
def f__law_highs : Fn := fnM 2 m__law_highs
/-! _law_joined(_law_parts): slots _law_parts, _law_found, _law_low, _law_high, _law_mark -/
def m__law_joined : MS := (mSeq (mOwn 1 (mLst mNil))
  (mSeq (mFor (mIt (mVar 0)) (gTp 3 (gsCons (gNm 2) (gsCons (gNm 3) (gsCons (gNm 4) gsNil)))) (mIfS (mAndT (mBl (mNeV 1 (mFz (mLst mNil)))) (mBl (mBin fEq (mBin ixD (mIxN 1 (mUn iNeg (mC (.int 1)))) (mC (.int 2))) (mVar 4)))) (mSetIx 1 (mUn iNeg (mC (.int 1))) (mTup (mCons (mBin ixD (mIxN 1 (mUn iNeg (mC (.int 1)))) (mC (.int 0))) (mCons (mVar 3) (mCons (mVar 4) mNil))))) (mExpr (mApp 1 (mTup (mCons (mVar 2) (mCons (mVar 3) (mCons (mVar 4) mNil))))))))
  (mRet (mVar 1))))
def f__law_joined : Fn := fnM 5 m__law_joined
/-! _law_spread(_law_points_here, _law_inside): slots _law_points_here, _law_inside, _law_parts, _law_low, _law_high, _law_truth -/
def m__law_spread : MS := (mSeq (mSet 2 (mCall f__law_joined (mCons (mFz (mLc (mZip3 (mCons (mVar 0) (mCons (mCall f__law_highs (mCons (mVar 0) mNil)) (mCons (mVar 1) mNil)))) (gTp 3 (gsCons (gNm 3) (gsCons (gNm 4) (gsCons (gNm 5) gsNil)))) mYes (mTup (mCons (mVar 3) (mCons (mVar 4) (mCons (mVar 5) mNil)))) [3, 4, 5])) mNil)))
  (mRet (mUn fTuple (mFz (mLc (mIt (mVar 2)) (gTp 3 (gsCons (gNm 3) (gsCons (gNm 4) (gsCons (gNm 5) gsNil)))) (mTru (mLook 5)) (mTup (mCons (mVar 3) (mCons (mVar 4) mNil))) [3, 4, 5])))))
def f__law_spread : Fn := fnM 6 m__law_spread
/-! _law_within(_law_stretches_here, _law_n): slots _law_stretches_here, _law_n, _law_low, _law_high -/
def m__law_within : MS := (mRet (mUn fAny (mFz (mLc (mIt (mVar 0)) (gTp 2 (gsCons (gNm 2) (gsCons (gNm 3) gsNil))) mYes (mAnd (mBin iLe (mVar 2) (mVar 1)) (mOr (mBin fIsN (mVar 3) (mC .non)) (mBin iLe (mVar 1) (mVar 3)))) [2, 3]))))
def f__law_within : Fn := fnM 4 m__law_within
/-! _law_points(_law_stretches_here): slots _law_stretches_here, _law_seams, _law_low, _law_high, _law_n -/
def m__law_points : MS := (mSeq (mOwn 1 (mBinF lAddL (mFz (mBinF lAddL (mFz (mLst (mCons (mC (.int 0)) mNil))) (mFz (mLc (mIt (mVar 0)) (gTp 2 (gsCons (gNm 2) (gsCons (gNm 3) gsNil))) mYes (mVar 2) [2, 3])))) (mFz (mLc (mIt (mVar 0)) (gTp 2 (gsCons (gNm 2) (gsCons (gNm 3) gsNil))) (mBl (mBin fNotN (mVar 3) (mC .non))) (mBin fAdd (mVar 3) (mC (.int 1))) [2, 3]))))
  (mRet (mFz (mUnF fSrtU (mFz (mLc (mIt (mVar 1)) (gNm 4) mYes (mUn fInt (mLook 4)) [4]))))))
def f__law_points : Fn := fnM 5 m__law_points
/-! _law_mixed_up(_law_first, _law_second, _law_way): slots _law_first, _law_second, _law_way, _law_points_here, _law_marks, _law_n, _law_a, _law_b -/
def m__law_mixed_up : MS := (mSeq (mSet 3 (mCall f__law_points (mCons (mBin fAdd (mVar 0) (mVar 1)) mNil)))
  (mSeq (mOwn 4 (mLc (mIt (mVar 3)) (gNm 5) mYes (mTup (mCons (mCall f__law_within (mCons (mVar 0) (mCons (mVar 5) mNil))) (mCons (mCall f__law_within (mCons (mVar 1) (mCons (mVar 5) mNil))) mNil))) [5]))
  (mSeq (mIfS (mBl (mBin fEq (mVar 2) (mC (.int 0)))) (mRet (mCall f__law_spread (mCons (mVar 3) (mCons (mFz (mLc (mIt (mVar 4)) (gTp 2 (gsCons (gNm 6) (gsCons (gNm 7) gsNil))) mYes (mOr (mVar 6) (mVar 7)) [6, 7])) mNil)))) mPass)
  (mSeq (mIfS (mBl (mBin fEq (mVar 2) (mC (.int 1)))) (mRet (mCall f__law_spread (mCons (mVar 3) (mCons (mFz (mLc (mIt (mVar 4)) (gTp 2 (gsCons (gNm 6) (gsCons (gNm 7) gsNil))) mYes (mAnd (mVar 6) (mVar 7)) [6, 7])) mNil)))) mPass)
  (mRet (mCall f__law_spread (mCons (mVar 3) (mCons (mFz (mLc (mIt (mVar 4)) (gTp 2 (gsCons (gNm 6) (gsCons (gNm 7) gsNil))) mYes (mIf (mBl (mBin fEq (mVar 2) (mC (.int 2)))) (mAnd (mVar 6) (mNot (mVar 7))) (mBin fNe (mVar 6) (mVar 7))) [6, 7])) mNil))))))))
def f__law_mixed_up : Fn := fnM 8 m__law_mixed_up
/-! paired(told): slots told, ends, turn, k -/
def m_paired : MS := (mSeq (mOwn 1 (mBinF lAddL (mFz (mLc (mIt (mVar 0)) (gNm 2) mYes (mBin iSub (mVar 2) (mC (.int 1))) [2])) (mFz (mLst (mCons (mC .non) mNil)))))
  (mRet (mUn fTuple (mFz (mLc (mRng rng3 (mCons (mC (.int 0)) (mCons (mUn fLen (mLook 0)) (mCons (mC (.int 2)) mNil)))) (gNm 3) mYes (mTup (mCons (mIxN 0 (mVar 3)) (mCons (mIxN 1 (mBin fAdd (mVar 3) (mC (.int 1)))) mNil))) [3])))))
def f_paired : Fn := fnM 4 m_paired
/-! turning_points(stretches): slots stretches, low, high, turn -/
def m_turning_points : MS := (mRet (mFz (mLc2 (mIt (mVar 0)) (gTp 2 (gsCons (gNm 1) (gsCons (gNm 2) gsNil))) mYes (mIfF (mBl (mBin fIsN (mVar 2) (mC .non))) (mLst (mCons (mVar 1) mNil)) (mLst (mCons (mVar 1) (mCons (mBin fAdd (mVar 2) (mC (.int 1))) mNil)))) (gNm 3) mYes (mVar 3) [1, 2, 3] [3])))
def f_turning_points : Fn := fnM 4 m_turning_points
/-! combined(one, two, keep): slots one, two, keep, first, second, a, b, told, at -/
def m_combined : MS := (mSeq (mSet 3 (mCall f_turning_points (mCons (mVar 0) mNil)))
  (mSeq (mSet 4 (mCall f_turning_points (mCons (mVar 1) mNil)))
  (mSeq (mSet 5 (mC (.int 0)))
  (mSeq (mSet 6 (mC (.int 0)))
  (mSeq (mOwn 7 (mLst mNil))
  (mSeq (mWhile (mOrT (mBl (mBin iLt (mVar 5) (mUn fLen (mLook 3)))) (mBl (mBin iLt (mVar 6) (mUn fLen (mLook 4))))) (mSeq (mIfS (mOrT (mBl (mBin fEq (mVar 6) (mUn fLen (mLook 4)))) (mAndT (mBl (mBin iLt (mVar 5) (mUn fLen (mLook 3)))) (mBl (mBin iLt (mIxN 3 (mVar 5)) (mIxN 4 (mVar 6)))))) (mSet 8 (mIxN 3 (mVar 5))) (mSet 8 (mIxN 4 (mVar 6))))
  (mSeq (mIfS (mAndT (mBl (mBin iLt (mVar 5) (mUn fLen (mLook 3)))) (mBl (mBin fEq (mIxN 3 (mVar 5)) (mVar 8)))) (mSet 5 (mBin fAdd (mVar 5) (mC (.int 1)))) mPass)
  (mSeq (mIfS (mAndT (mBl (mBin iLt (mVar 6) (mUn fLen (mLook 4)))) (mBl (mBin fEq (mIxN 4 (mVar 6)) (mVar 8)))) (mSet 6 (mBin fAdd (mVar 6) (mC (.int 1)))) mPass)
  (mIfS (mBl (mBin fNe (mIxN 2 (mBin fAdd (mBin fMul (mBin iMod (mVar 5) (mC (.int 2))) (mC (.int 2))) (mBin iMod (mVar 6) (mC (.int 2))))) (mBin fEq (mBin iMod (mUn fLen (mLook 7)) (mC (.int 2))) (mC (.int 1))))) (mExpr (mApp 7 (mVar 8))) mPass)))))
  (mRet (mCall f_paired (mCons (mVar 7) mNil)))))))))
def f_combined : Fn := fnM 9 m_combined
/-! is_whole(value): slots value -/
def m_is_whole : MS := (mRet (mAnd (mUn (fIsi "int") (mLook 0)) (mNot (mUn (fIsi "bool") (mLook 0)))))
def f_is_whole : Fn := fnM 1 m_is_whole
/-! is_stretch(value): slots value, low, high -/
def m_is_stretch : MS := (mSeq (mIfS (mOrT (mNotT (mTru (mUn (fIsi "tuple") (mLook 0)))) (mBl (mBin fNe (mUn fLen (mLook 0)) (mC (.int 2))))) (mRet (mC (.bl false))) mPass)
  (mSeq (mAsg (gTL 2 (gsCons (gNm 1) (gsCons (gNm 2) gsNil))) (mVar 0))
  (mSeq (mIfS (mOrT (mNotT (mTru (mCall f_is_whole (mCons (mVar 1) mNil)))) (mBl (mBin iLt (mVar 1) (mC (.int 0))))) (mRet (mC (.bl false))) mPass)
  (mRet (mOr (mBin fIsN (mVar 2) (mC .non)) (mAnd (mCall f_is_whole (mCons (mVar 2) mNil)) (mBin iGe (mVar 2) (mVar 1))))))))
def f_is_stretch : Fn := fnM 3 m_is_stretch
/-! Span___init__(self, stretches): slots self, stretches, told, stretch -/
def m_Span___init__ : MS := (mSeq (mIfS (mNotT (mTru (mUn (fIsiA ["list", "tuple"]) (mVar 1)))) (mRaise "BadValue" "shown" (mVar 1)) mPass)
  (mSeq (mSet 2 (mTup mNil))
  (mSeq (mFor (mIt (mVar 1)) (gNm 3) (mSeq (mIfS (mNotT (mTru (mCall f_is_stretch (mCons (mVar 3) mNil)))) (mRaise "BadValue" "shown" (mVar 3)) mPass)
  (mSet 2 (mCall f_combined (mCons (mVar 2) (mCons (mTup (mCons (mVar 3) mNil)) (mCons (mC (.kt [(.bl false), (.bl true), (.bl true), (.bl true)])) mNil)))))))
  (mSetF "Span" "stretches" (mVar 0) (mVar 2)))))
def f_Span___init__ : Fn := fnM 4 m_Span___init__
/-! Span___or__(self, other): slots self, other -/
def m_Span___or__ : MS := (mSeq (mIfS (mNotT (mTru (mIsC "Span" (mLook 1)))) stk mPass)
  (mRet (mMake "Span" f_Span___init__ (mCons (mCall f_combined (mCons (mFld "Span" "stretches" (mVar 0)) (mCons (mFld "Span" "stretches" (mVar 1)) (mCons (mC (.kt [(.bl false), (.bl true), (.bl true), (.bl true)])) mNil)))) mNil))))
def f_Span___or__ : Fn := fnM 2 m_Span___or__
/-! Span___xor__(self, other): slots self, other -/
def m_Span___xor__ : MS := (mSeq (mIfS (mNotT (mTru (mIsC "Span" (mLook 1)))) stk mPass)
  (mRet (mMake "Span" f_Span___init__ (mCons (mCall f_combined (mCons (mFld "Span" "stretches" (mVar 0)) (mCons (mFld "Span" "stretches" (mVar 1)) (mCons (mC (.kt [(.bl false), (.bl true), (.bl true), (.bl false)])) mNil)))) mNil))))
def f_Span___xor__ : Fn := fnM 2 m_Span___xor__
/-! Span___invert__(self): slots self -/
def m_Span___invert__ : MS := (mRet (mMake "Span" f_Span___init__ (mCons (mCall f_combined (mCons (mC (.kt [(.kt [(.int 0), .non])])) (mCons (mFld "Span" "stretches" (mVar 0)) (mCons (mC (.kt [(.bl false), (.bl false), (.bl true), (.bl false)])) mNil)))) mNil)))
def f_Span___invert__ : Fn := fnM 1 m_Span___invert__
/-! Span___isub__(self, other): slots self, other -/
def m_Span___isub__ : MS := (mSeq (mIfS (mNotT (mTru (mIsC "Span" (mLook 1)))) stk mPass)
  (mSeq (mSetF "Span" "stretches" (mVar 0) (mCall f_combined (mCons (mFld "Span" "stretches" (mVar 0)) (mCons (mFld "Span" "stretches" (mVar 1)) (mCons (mC (.kt [(.bl false), (.bl false), (.bl true), (.bl false)])) mNil)))))
  (mRet (mVar 0))))
def f_Span___isub__ : Fn := fnM 2 m_Span___isub__
/-! Span___iand__(self, other): slots self, other -/
def m_Span___iand__ : MS := (mSeq (mIfS (mNotT (mTru (mIsC "Span" (mLook 1)))) stk mPass)
  (mSeq (mSetF "Span" "stretches" (mVar 0) (mCall f_combined (mCons (mFld "Span" "stretches" (mVar 0)) (mCons (mFld "Span" "stretches" (mVar 1)) (mCons (mC (.kt [(.bl false), (.bl false), (.bl false), (.bl true)])) mNil)))))
  (mRet (mVar 0))))
def f_Span___iand__ : Fn := fnM 2 m_Span___iand__
/-! Span___ior__(self, other): slots self, other -/
def m_Span___ior__ : MS := (mSeq (mIfS (mNotT (mTru (mIsC "Span" (mLook 1)))) stk mPass)
  (mSeq (mSetF "Span" "stretches" (mVar 0) (mCall f_combined (mCons (mFld "Span" "stretches" (mVar 0)) (mCons (mFld "Span" "stretches" (mVar 1)) (mCons (mC (.kt [(.bl false), (.bl true), (.bl true), (.bl true)])) mNil)))))
  (mRet (mVar 0))))
def f_Span___ior__ : Fn := fnM 2 m_Span___ior__
/-! _law_united(_law_stretches_here): slots _law_stretches_here, _law_points_here, _law_n -/
def m__law_united : MS := (mSeq (mSet 1 (mCall f__law_points (mCons (mVar 0) mNil)))
  (mRet (mCall f__law_spread (mCons (mVar 1) (mCons (mFz (mLc (mIt (mVar 1)) (gNm 2) mYes (mCall f__law_within (mCons (mVar 0) (mCons (mVar 2) mNil))) [2])) mNil)))))
def f__law_united : Fn := fnM 3 m__law_united
/-! _law_stretch(_law_pen_here, _law_base_here): slots _law_pen_here, _law_base_here, _law_low -/
def m__law_stretch : MS := (mSeq (mSet 2 (mBin fAdd (mVar 1) (mCall f__law_draw (mCons (mVar 0) (mCons (mC (.int 40)) mNil)))))
  (mRet (mTup (mCons (mVar 2) (mCons (mIf (mBl (mBin fEq (mCall f__law_draw (mCons (mVar 0) (mCons (mC (.int 12)) mNil))) (mC (.int 0)))) (mC .non) (mBin fAdd (mVar 2) (mCall f__law_draw (mCons (mVar 0) (mCons (mC (.int 7)) mNil))))) mNil)))))
def f__law_stretch : Fn := fnM 3 m__law_stretch
/-! _law_stretches(_law_pen_here, _law_base_here): slots _law_pen_here, _law_base_here, _law_found, _law_k -/
def m__law_stretches : MS := (mSeq (mOwn 2 (mLc (mRng rng1 (mCons (mCall f__law_draw (mCons (mVar 0) (mCons (mC (.int 8)) mNil))) mNil)) (gNm 3) mYes (mCall f__law_stretch (mCons (mVar 0) (mCons (mVar 1) mNil))) [3]))
  (mRet (mFz (mBinF lAddL (mVar 2) (mFz (mBinF lRepL (mFz (mLst (mCons (mTup (mCons (mC (.int 0)) (mCons (mCall f__law_draw (mCons (mVar 0) (mCons (mC (.int 9)) mNil))) mNil))) mNil))) (mCall f__law_draw (mCons (mVar 0) (mCons (mC (.int 2)) mNil)))))))))
def f__law_stretches : Fn := fnM 4 m__law_stretches
/-! _law_great(_law_pen_here, _law_many): slots _law_pen_here, _law_many, _law_amount, _law_size -/
def m__law_great : MS := (mSeq (mAsg (gTL 2 (gsCons (gNm 2) (gsCons (gNm 3) gsNil))) (mTup (mCons (mC (.int 0)) (mCons (mC (.int 1)) mNil))))
  (mSeq (mWhile (mBl (mBin iLt (mVar 3) (mVar 1))) (mPar 2 3 (mCons (mBin fAdd (mBin fMul (mVar 2) (mBin iPow (mC (.int 10)) (mC (.int 9)))) (mCall f__law_draw (mCons (mVar 0) (mCons (mBin iPow (mC (.int 10)) (mC (.int 9))) mNil)))) (mCons (mBin fMul (mVar 3) (mBin iPow (mC (.int 10)) (mC (.int 9)))) mNil))))
  (mRet (mBin iMod (mUn fInt (mLook 2)) (mVar 1)))))
def f__law_great : Fn := fnM 4 m__law_great
/-! _law_base(_law_pen_here): slots _law_pen_here -/
def m__law_base : MS := (mRet (mIf (mBl (mBin fEq (mCall f__law_draw (mCons (mVar 0) (mCons (mC (.int 4)) mNil))) (mC (.int 0)))) (mCall f__law_great (mCons (mVar 0) (mCons (mBin iPow (mC (.int 10)) (mC (.int 60))) mNil))) (mCall f__law_draw (mCons (mVar 0) (mCons (mC (.int 3)) mNil)))))
def f__law_base : Fn := fnM 1 m__law_base
end
end LC

/-! spans, the plain part: turning points -/
namespace SP
open DL
abbrev Up (t : List Int) : Prop := t.Pairwise (· < ·)
/-- does n lie within, by the turning points -/
def par : List Int → Int → Bool
  | [], _ => false
  | x :: r, n => xor (decide (x ≤ n)) (par r n)
theorem par_far : ∀ {t : List Int} {n : Int}, (∀ x ∈ t, n < x) → par t n = false
  | [], _, _ => rfl
  | x :: r, n, h => by
    have h1 := h x List.mem_cons_self
    have : ¬ x ≤ n := by omega
    simp [par, this, par_far fun y hy => h y (List.mem_cons_of_mem _ hy)]
theorem par_diff : ∀ {t : List Int} (x : Int), Up t → (xor (par t x) (par t (x - 1)) = decide (x ∈ t))
  | [], x, _ => by simp [par]
  | y :: r, x, h => by
    obtain ⟨h1, h2⟩ := List.pairwise_cons.mp h
    have ih := par_diff x h2
    have e : xor (par (y :: r) x) (par (y :: r) (x - 1)) = xor (xor (decide (y ≤ x)) (decide (y ≤ x - 1))) (xor (par r x) (par r (x - 1))) := by
      simp only [par]
      cases decide (y ≤ x) <;> cases decide (y ≤ x - 1) <;> cases par r x <;> cases par r (x - 1) <;> rfl
    rw [e, ih]
    by_cases hxy : x = y
    · subst hxy
      have hn : x ∉ r := fun z => by have := h1 x z; omega
      have a : ¬ x ≤ x - 1 := by omega
      simp [hn, a]
    · have q : (decide (y ≤ x)) = decide (y ≤ x - 1) := by
        by_cases z : y ≤ x
        · have : y ≤ x - 1 := by omega
          simp [z, this]
        · have : ¬ y ≤ x - 1 := by omega
          simp [z, this]
      simp [q, hxy]
/-- t are the places where f changes -/
structure Tp (t : List Int) (f : Int → Bool) : Prop where
  up : Up t
  ch : ∀ x, x ∈ t ↔ f x ≠ f (x - 1)
  ng : ∀ n, n < 0 → f n = false
theorem Tp.uniq {t t' : List Int} {f : Int → Bool} (h : Tp t f) (h' : Tp t' f) : t = t' := up_eq h.up h'.up fun x => (h.ch x).trans (h'.ch x).symm
theorem Tp.congr {t : List Int} {f g : Int → Bool} (h : Tp t f) (e : ∀ n, f n = g n) : Tp t g := by
  have : f = g := funext e
  rw [← this]; exact h
theorem Tp.nn {t : List Int} {f : Int → Bool} (h : Tp t f) {x : Int} (m : x ∈ t) : 0 ≤ x := by
  have := (h.ch x).mp m
  by_cases z : 0 ≤ x
  · exact z
  · exact (this (by rw [h.ng x (by omega), h.ng (x - 1) (by omega)])).elim
theorem Tp.par {t : List Int} {f : Int → Bool} (h : Tp t f) : ∀ n, par t n = f n := by
  have neg : ∀ n, n < 0 → SP.par t n = f n := fun n hn => by
    rw [h.ng n hn]
    exact par_far fun x hx => by have := h.nn hx; omega
  have nat : ∀ k : Nat, SP.par t k = f k := by
    intro k
    have step : ∀ n : Int, SP.par t (n - 1) = f (n - 1) → SP.par t n = f n := fun n e => by
      have d := par_diff n h.up
      rw [e] at d
      by_cases m : n ∈ t
      · have c := (h.ch n).mp m
        rw [decide_eq_true m] at d
        cases hp : SP.par t n <;> cases h1 : f n <;> cases h2 : f (n - 1) <;> simp_all
      · have c : f n = f (n - 1) := by
          cases h1 : f n <;> cases h2 : f (n - 1) <;> first | rfl | exact (m ((h.ch n).mpr (by rw [h1, h2]; simp))).elim
        rw [decide_eq_false m] at d
        cases hp : SP.par t n <;> cases h1 : f n <;> cases h2 : f (n - 1) <;> simp_all
    induction k with
    | zero => exact step 0 (neg _ (by omega))
    | succ k ih => exact step _ (by have : ((k + 1 : Nat) : Int) - 1 = k := by omega
                                    rw [this]; exact ih)
  intro n
  by_cases z : n < 0
  · exact neg n z
  · have := nat n.toNat
    rwa [Int.toNat_of_nonneg (by omega)] at this
theorem tp_par {t : List Int} (h : Up t) (n : ∀ x ∈ t, 0 ≤ x) : Tp t (par t) := by
  refine ⟨h, fun x => ?_, fun k hk => par_far fun x hx => by have := n x hx; omega⟩
  have d := par_diff x h
  cases hp : par t x <;> cases h1 : par t (x - 1) <;> by_cases m : x ∈ t <;> simp_all
/-- the places where the marks change -/
def chg : Bool → List (Int × Bool) → List Int
  | _, [] => []
  | c, (p, b) :: r => if b = c then chg c r else p :: chg b r
theorem const_upto {f : Int → Bool} {p : Int} : ∀ (k : Nat), (∀ x, p < x → x ≤ p + k → f x = f (x - 1)) → f (p + k) = f p
  | 0, _ => by simp
  | k + 1, h => by
    have e := h (p + ((k + 1 : Nat) : Int)) (by omega) (by omega)
    have : p + ((k + 1 : Nat) : Int) - 1 = p + k := by omega
    rw [e, this]
    exact const_upto k fun x h1 h2 => h x h1 (by omega)
theorem const_to {f : Int → Bool} {p q : Int} (hpq : p ≤ q) (h : ∀ x, p < x → x ≤ q → f x = f (x - 1)) : f q = f p := by
  have := const_upto (f := f) (p := p) (q - p).toNat fun x h1 h2 => h x h1 (by omega)
  have e : p + ((q - p).toNat : Int) = q := by omega
  rwa [e] at this
theorem chg_in {f : Int → Bool} : ∀ {pts : List Int} {c : Bool}, Up pts → (∀ p r, pts = p :: r → f (p - 1) = c) → (∀ x, (∃ p r, pts = p :: r ∧ p ≤ x) → f x ≠ f (x - 1) → x ∈ pts) →
    Up (chg c (pts.map fun p => (p, f p))) ∧ (∀ x, x ∈ chg c (pts.map fun p => (p, f p)) ↔ x ∈ pts ∧ f x ≠ f (x - 1))
  | [], c, _, _, _ => by simp [chg]
  | p :: r, c, hu, hc, hm => by
    obtain ⟨h1, h2⟩ := List.pairwise_cons.mp hu
    have cp : f (p - 1) = c := hc p r rfl
    have next : ∀ q r', r = q :: r' → f (q - 1) = f p := fun q r' e => by
      have hq : p < q := h1 q (by rw [e]; exact List.mem_cons_self)
      refine const_to (by omega) fun x x1 x2 => ?_
      cases hfx : decide (f x = f (x - 1)) with
      | true => exact of_decide_eq_true hfx
      | false =>
        have := hm x ⟨p, r, rfl, by omega⟩ (of_decide_eq_false hfx)
        rcases List.mem_cons.mp this with z | z
        · omega
        · rw [e] at z
          rcases List.mem_cons.mp z with z | z
          · omega
          · have h2' := h2
            rw [e] at h2'
            have := (List.pairwise_cons.mp h2').1 x z
            omega
    have rest : ∀ x, (∃ q r', r = q :: r' ∧ q ≤ x) → f x ≠ f (x - 1) → x ∈ r := fun x ⟨q, r', e, hq⟩ hx => by
      have hpq : p < q := h1 q (by rw [e]; exact List.mem_cons_self)
      rcases List.mem_cons.mp (hm x ⟨p, r, rfl, by omega⟩ hx) with z | z
      · omega
      · exact z
    obtain ⟨u, m⟩ := chg_in (f := f) (pts := r) (c := f p) h2 next rest
    simp only [List.map_cons, chg]
    by_cases e : f p = c
    · rw [if_pos e]
      rw [← e]
      refine ⟨u, fun x => (m x).trans ⟨fun ⟨a, b⟩ => ⟨List.mem_cons_of_mem _ a, b⟩, fun ⟨a, b⟩ => ⟨?_, b⟩⟩⟩
      rcases List.mem_cons.mp a with z | z
      · subst z; exact (b (by rw [cp, e])).elim
      · exact z
    · rw [if_neg e]
      refine ⟨List.pairwise_cons.mpr ⟨fun y hy => h1 y ((m y).mp hy).1, u⟩, fun x => ?_⟩
      rw [List.mem_cons, m x, List.mem_cons]
      constructor
      · rintro (z | ⟨a, b⟩)
        · subst z; exact ⟨.inl rfl, by rw [cp]; exact e⟩
        · exact ⟨.inr a, b⟩
      · rintro ⟨z | z, b⟩
        · exact .inl z
        · exact .inr ⟨z, b⟩
theorem chg_tp {f : Int → Bool} {pts : List Int} (hu : Up pts) (ng : ∀ n, n < 0 → f n = false) (hm : ∀ x, f x ≠ f (x - 1) → x ∈ pts) : Tp (chg false (pts.map fun p => (p, f p))) f := by
  obtain ⟨u, m⟩ := chg_in (f := f) (pts := pts) (c := false) hu (fun p r e => by
    by_cases hp : p - 1 < 0
    · exact ng _ hp
    · have : f (p - 1) = f (-1) := const_to (by omega) fun x x1 x2 => by
        cases hfx : decide (f x = f (x - 1)) with
        | true => exact of_decide_eq_true hfx
        | false =>
          have z := hm x (of_decide_eq_false hfx)
          rw [e] at z hu
          rcases List.mem_cons.mp z with z | z
          · omega
          · have := (List.pairwise_cons.mp hu).1 x z
            omega
      rw [this]; exact ng _ (by omega)) fun x _ hx => hm x hx
  exact ⟨u, fun x => (m x).trans ⟨fun h => h.2, fun h => ⟨hm x h, h⟩⟩, ng⟩
/-! ### stretches -/
abbrev Sq := Int × Option Int
def pr : List Int → List Sq
  | [] => []
  | [x] => [(x, none)]
  | x :: y :: r => (x, some (y - 1)) :: pr r
def flat : List Sq → List Int
  | [] => []
  | (a, none) :: r => a :: flat r
  | (a, some b) :: r => a :: (b + 1) :: flat r
theorem flat_pr : ∀ t : List Int, flat (pr t) = t
  | [] => rfl
  | [x] => rfl
  | x :: y :: r => by simp [pr, flat, flat_pr r]
def inS (s : Sq) (n : Int) : Bool := decide (s.1 ≤ n) && (match s.2 with | none => true | some h => decide (n ≤ h))
def wi (l : List Sq) (n : Int) : Bool := l.any fun s => inS s n
theorem wi_far : ∀ {l : List Sq} {n : Int}, (∀ s ∈ l, n < s.1) → wi l n = false
  | [], _, _ => rfl
  | s :: r, n, h => by
    have h1 := h s List.mem_cons_self
    have : ¬ s.1 ≤ n := by omega
    have ih := wi_far (l := r) (n := n) fun y hy => h y (List.mem_cons_of_mem _ hy)
    have e : inS s n = false := by simp [inS, this]
    unfold wi at ih ⊢
    rw [List.any_cons, e, ih]; rfl
theorem pr_low : ∀ {t : List Int} {s : Sq}, s ∈ pr t → s.1 ∈ t
  | [], s, h => by simp [pr] at h
  | [x], s, h => by simp [pr] at h; simp [h]
  | x :: y :: r, s, h => by
    simp only [pr, List.mem_cons] at h
    rcases h with h | h
    · simp [h]
    · have := pr_low h
      simp [this]
theorem wi_pr : ∀ {t : List Int} (n : Int), Up t → wi (pr t) n = par t n
  | [], n, _ => rfl
  | [x], n, _ => by simp [pr, wi, inS, par]
  | x :: y :: r, n, h => by
    obtain ⟨h1, h2⟩ := List.pairwise_cons.mp h
    obtain ⟨h3, h4⟩ := List.pairwise_cons.mp h2
    have hxy := h1 y List.mem_cons_self
    have ih := wi_pr n h4
    have e : wi (pr (x :: y :: r)) n = (inS (x, some (y - 1)) n || wi (pr r) n) := by simp [pr, wi]
    rw [e, ih]
    simp only [par, inS]
    by_cases a : y ≤ n
    · have b : x ≤ n := by omega
      have c : ¬ n ≤ y - 1 := by omega
      simp [a, b, c]
    · have z : par r n = false := par_far fun q hq => by have := h3 q hq; omega
      by_cases b : x ≤ n
      · have c : n ≤ y - 1 := by omega
        simp [a, b, c, z]
      · simp [a, b, z]
end SP

namespace SP
open DL
/-! ### the merge of two lists of turning points, with what is kept -/
def mk (k : Bool → Bool → Bool) : List Int → List Int → Bool → Bool → List (Int × Bool)
  | [], [], _, _ => []
  | x :: r, [], a, b => (x, k (!a) b) :: mk k r [] (!a) b
  | [], y :: q, a, b => (y, k a (!b)) :: mk k [] q a (!b)
  | x :: r, y :: q, a, b => if x < y then (x, k (!a) b) :: mk k r (y :: q) (!a) b else if x = y then (x, k (!a) (!b)) :: mk k r q (!a) (!b) else (y, k a (!b)) :: mk k (x :: r) q a (!b)
termination_by t u => t.length + u.length
theorem mk_in (k : Bool → Bool → Bool) : ∀ (n : Nat) (t u : List Int) (a b : Bool), t.length + u.length = n → Up t → Up u →
    Up ((mk k t u a b).map (·.1)) ∧ (∀ x, x ∈ (mk k t u a b).map (·.1) ↔ x ∈ t ∨ x ∈ u) ∧ ∀ p ∈ mk k t u a b, p.2 = k (xor a (par t p.1)) (xor b (par u p.1)) := by
  intro n
  induction n using Nat.strongRecOn with
  | _ n ih =>
    intro t u a b hn ht hu
    have shift : ∀ {x : Int} {r : List Int} {p : Int} {a : Bool}, x < p → xor (!a) (par r p) = xor a (par (x :: r) p) := fun {x r p a} h => by
      have : x ≤ p := by omega
      simp only [par, this, decide_true]
      cases a <;> cases par r p <;> rfl
    have here : ∀ {x : Int} {r : List Int} {a : Bool}, Up (x :: r) → xor a (par (x :: r) x) = !a := fun {x r a} h => by
      have z : par r x = false := par_far (List.pairwise_cons.mp h).1
      simp only [par, z, Int.le_refl, decide_true]
      cases a <;> rfl
    have out : ∀ {x : Int} {r : List Int} {a : Bool}, (∀ y ∈ r, x < y) → xor a (par r x) = a := fun {x r a} h => by
      rw [par_far h]; cases a <;> rfl
    match t, u, hn, ht, hu with
    | [], [], _, _, _ => unfold mk; simp
    | x :: r, [], hn, ht, hu =>
      obtain ⟨h1, h2⟩ := List.pairwise_cons.mp ht
      obtain ⟨i1, i2, i3⟩ := ih (r.length + ([] : List Int).length) (by simp at hn ⊢; omega) r [] (!a) b rfl h2 hu
      have big : ∀ y ∈ (mk k r [] (!a) b).map (·.1), x < y := fun y hy => by
        rcases (i2 y).mp hy with z | z
        · exact h1 y z
        · cases z
      unfold mk
      refine ⟨List.pairwise_cons.mpr ⟨big, i1⟩, fun y => ?_, fun p hp => ?_⟩
      · rw [List.map_cons, List.mem_cons, i2 y, List.mem_cons]; exact or_assoc.symm
      · rcases List.mem_cons.mp hp with z | z
        · subst z
          dsimp only
          rw [here ht, out (r := []) fun y hy => by cases hy]
        · rw [i3 p z, shift (big p.1 (List.mem_map_of_mem z))]
    | [], y :: q, hn, ht, hu =>
      obtain ⟨h1, h2⟩ := List.pairwise_cons.mp hu
      obtain ⟨i1, i2, i3⟩ := ih (([] : List Int).length + q.length) (by simp at hn ⊢; omega) [] q a (!b) rfl ht h2
      have big : ∀ z ∈ (mk k [] q a (!b)).map (·.1), y < z := fun z hz => by
        rcases (i2 z).mp hz with w | w
        · cases w
        · exact h1 z w
      unfold mk
      refine ⟨List.pairwise_cons.mpr ⟨big, i1⟩, fun z => ?_, fun p hp => ?_⟩
      · rw [List.map_cons, List.mem_cons, i2 z, List.mem_cons]; exact or_left_comm
      · rcases List.mem_cons.mp hp with z | z
        · subst z
          dsimp only
          rw [here hu, out (r := []) fun y hy => by cases hy]
        · rw [i3 p z, shift (big p.1 (List.mem_map_of_mem z))]
    | x :: r, y :: q, hn, ht, hu =>
      obtain ⟨h1, h2⟩ := List.pairwise_cons.mp ht
      obtain ⟨h3, h4⟩ := List.pairwise_cons.mp hu
      unfold mk
      by_cases c : x < y
      · rw [if_pos c]
        obtain ⟨i1, i2, i3⟩ := ih (r.length + (y :: q).length) (by simp at hn ⊢; omega) r (y :: q) (!a) b rfl h2 hu
        have big : ∀ z ∈ (mk k r (y :: q) (!a) b).map (·.1), x < z := fun z hz => by
          rcases (i2 z).mp hz with w | w
          · exact h1 z w
          · rcases List.mem_cons.mp w with w | w
            · omega
            · have := h3 z w; omega
        refine ⟨List.pairwise_cons.mpr ⟨big, i1⟩, fun z => ?_, fun p hp => ?_⟩
        · rw [List.map_cons, List.mem_cons, i2 z, List.mem_cons (l := r)]; exact or_assoc.symm
        · rcases List.mem_cons.mp hp with z | z
          · subst z
            dsimp only
            rw [here ht, out (r := y :: q) fun z hz => by
              rcases List.mem_cons.mp hz with w | w
              · omega
              · have := h3 z w; omega]
          · rw [i3 p z, shift (big p.1 (List.mem_map_of_mem z))]
      · rw [if_neg c]
        by_cases d : x = y
        · rw [if_pos d]
          subst d
          obtain ⟨i1, i2, i3⟩ := ih (r.length + q.length) (by simp at hn ⊢; omega) r q (!a) (!b) rfl h2 h4
          have big : ∀ z ∈ (mk k r q (!a) (!b)).map (·.1), x < z := fun z hz => by
            rcases (i2 z).mp hz with w | w
            · exact h1 z w
            · exact h3 z w
          refine ⟨List.pairwise_cons.mpr ⟨big, i1⟩, fun z => ?_, fun p hp => ?_⟩
          · rw [List.map_cons, List.mem_cons, i2 z, List.mem_cons, List.mem_cons]; exact ⟨fun w => w.elim (fun w => .inl (.inl w)) fun w => w.elim (fun w => .inl (.inr w)) fun w => .inr (.inr w), fun w => w.elim (fun w => w.elim .inl fun w => .inr (.inl w)) fun w => w.elim .inl fun w => .inr (.inr w)⟩
          · rcases List.mem_cons.mp hp with z | z
            · subst z
              dsimp only
              rw [here ht, here hu]
            · rw [i3 p z, shift (big p.1 (List.mem_map_of_mem z)), shift (big p.1 (List.mem_map_of_mem z))]
        · rw [if_neg d]
          obtain ⟨i1, i2, i3⟩ := ih ((x :: r).length + q.length) (by simp at hn ⊢; omega) (x :: r) q a (!b) rfl ht h4
          have big : ∀ z ∈ (mk k (x :: r) q a (!b)).map (·.1), y < z := fun z hz => by
            rcases (i2 z).mp hz with w | w
            · rcases List.mem_cons.mp w with w | w
              · omega
              · have := h1 z w; omega
            · exact h3 z w
          refine ⟨List.pairwise_cons.mpr ⟨big, i1⟩, fun z => ?_, fun p hp => ?_⟩
          · rw [List.map_cons, List.mem_cons, i2 z, List.mem_cons (l := q)]; exact or_left_comm
          · rcases List.mem_cons.mp hp with z | z
            · subst z
              dsimp only
              rw [here hu, out (r := x :: r) fun z hz => by
                rcases List.mem_cons.mp hz with w | w
                · omega
                · have := h1 z w; omega]
            · rw [i3 p z, shift (big p.1 (List.mem_map_of_mem z))]
theorem pairs_eq {f : Int → Bool} : ∀ {l : List (Int × Bool)}, (∀ p ∈ l, p.2 = f p.1) → l = (l.map (·.1)).map fun p => (p, f p)
  | [], _ => rfl
  | p :: r, h => by
    have h1 := h p List.mem_cons_self
    rw [List.map_cons, List.map_cons, ← pairs_eq fun q hq => h q (List.mem_cons_of_mem _ hq)]
    congr 1
    obtain ⟨a, b⟩ := p
    simp_all
/-- what the program's combined does to turning points -/
def cmb (k : Bool → Bool → Bool) (t u : List Int) : List Int := chg false (mk k t u false false)
theorem cmb_tp {k : Bool → Bool → Bool} (hk : k false false = false) {t u : List Int} {f g : Int → Bool} (ht : Tp t f) (hu : Tp u g) : Tp (cmb k t u) fun n => k (f n) (g n) := by
  obtain ⟨h1, h2, h3⟩ := mk_in k _ t u false false rfl ht.up hu.up
  have e := pairs_eq (f := fun n => k (f n) (g n)) (l := mk k t u false false) fun p hp => by
    rw [h3 p hp, ht.par, hu.par]
    cases f p.1 <;> cases g p.1 <;> rfl
  unfold cmb
  rw [e]
  refine chg_tp (f := fun n => k (f n) (g n)) h1 (fun n hn => by show k (f n) (g n) = false; rw [ht.ng n hn, hu.ng n hn]; exact hk) fun x hx => (h2 x).mpr ?_
  by_cases a : x ∈ t
  · exact .inl a
  · by_cases b : x ∈ u
    · exact .inr b
    · refine (hx ?_).elim
      have ea : f x = f (x - 1) := by
        cases q : decide (f x = f (x - 1)) with
        | true => exact of_decide_eq_true q
        | false => exact (a ((ht.ch x).mpr (of_decide_eq_false q))).elim
      have eb : g x = g (x - 1) := by
        cases q : decide (g x = g (x - 1)) with
        | true => exact of_decide_eq_true q
        | false => exact (b ((hu.ch x).mpr (of_decide_eq_false q))).elim
      show k (f x) (g x) = k (f (x - 1)) (g (x - 1))
      rw [ea, eb]
theorem cmb_in {k : Bool → Bool → Bool} {t u : List Int} (ht : Up t) (hu : Up u) {x : Int} (h : x ∈ cmb k t u) : x ∈ t ∨ x ∈ u := by
  have sub : ∀ (l : List (Int × Bool)) (c : Bool), x ∈ chg c l → x ∈ l.map (·.1) := by
    intro l
    induction l with
    | nil => intro c h; simp [chg] at h
    | cons p r ih =>
      intro c h
      obtain ⟨a, b⟩ := p
      unfold chg at h
      split at h
      · exact List.mem_cons_of_mem _ (ih _ h)
      · rcases List.mem_cons.mp h with z | z
        · simp [z]
        · exact List.mem_cons_of_mem _ (ih _ z)
  exact ((mk_in k _ t u false false rfl ht hu).2.1 x).mp (sub _ _ h)
/-! ### the law's side: parts joined -/
abbrev Pt := Int × Option Int × Bool
def nx : List (Int × Bool) → Option Int
  | [] => none
  | (p, _) :: _ => some (p - 1)
def prt : List (Int × Bool) → List Pt
  | [] => []
  | (p, b) :: r => (p, nx r, b) :: prt r
def jstep (found : List Pt) (x : Pt) : List Pt := match found.getLast? with
  | some l => if l.2.2 = x.2.2 then found.dropLast ++ [(l.1, x.2.1, x.2.2)] else found ++ [x]
  | none => found ++ [x]
def gr (lo : Int) (m : Bool) : List (Int × Bool) → List Pt
  | [] => [(lo, none, m)]
  | (p, b) :: r => if b = m then gr lo m r else (lo, some (p - 1), m) :: gr p b r
theorem jstep_at (pre : List Pt) (lo : Int) (hi : Option Int) (m : Bool) (x : Pt) : jstep (pre ++ [(lo, hi, m)]) x = if m = x.2.2 then pre ++ [(lo, x.2.1, x.2.2)] else (pre ++ [(lo, hi, m)]) ++ [x] := by
  unfold jstep
  simp only [List.getLast?_append, List.getLast?_singleton, Option.some_or, List.dropLast_concat]
theorem jn_gr : ∀ (rest : List (Int × Bool)) (pre : List Pt) (lo : Int) (m : Bool), (prt rest).foldl jstep (pre ++ [(lo, nx rest, m)]) = pre ++ gr lo m rest
  | [], pre, lo, m => by simp [prt, nx, gr]
  | (p, b) :: r, pre, lo, m => by
    simp only [prt, List.foldl_cons, gr]
    rw [jstep_at]
    by_cases e : b = m
    · subst e
      rw [if_pos rfl, if_pos rfl]
      exact jn_gr r pre lo b
    · rw [if_neg fun z => e z.symm, if_neg e]
      rw [jn_gr r (pre ++ [(lo, nx ((p, b) :: r), m)]) p b]
      simp [nx]
def fl (l : List Pt) : List Sq := (l.filter (·.2.2)).map fun p => (p.1, p.2.1)
theorem fl_gr : ∀ (rest : List (Int × Bool)) (lo : Int), fl (gr lo true rest) = pr (lo :: chg true rest) ∧ fl (gr lo false rest) = pr (chg false rest)
  | [], lo => by simp [gr, fl, chg, pr]
  | (p, b) :: r, lo => by
    obtain ⟨h1, h2⟩ := fl_gr r lo
    obtain ⟨h3, h4⟩ := fl_gr r p
    cases b with
    | true =>
      refine ⟨by simp only [gr, chg, if_true]; exact h1, ?_⟩
      simp only [gr, chg]
      rw [if_neg (by decide), if_neg (by decide)]
      rw [← h3]
      simp [fl]
    | false =>
      refine ⟨?_, by simp only [gr, chg, if_true]; exact h2⟩
      simp only [gr, chg]
      rw [if_neg (by decide), if_neg (by decide)]
      show fl _ = (lo, some (p - 1)) :: pr (chg false r)
      rw [← h4]
      simp [fl]
/-- joined and the true ones taken: the stretches of the places of change -/
theorem spread_eq (ps : List (Int × Bool)) : fl ((prt ps).foldl jstep []) = pr (chg false ps) := by
  cases ps with
  | nil => simp [prt, fl, chg, pr]
  | cons p r =>
    obtain ⟨p, b⟩ := p
    have e : (prt ((p, b) :: r)).foldl jstep [] = gr p b r := by
      have := jn_gr r [] p b
      simp only [List.nil_append] at this
      rw [← this]
      simp [prt, jstep]
    rw [e]
    cases b with
    | true => rw [(fl_gr r p).1]; simp [chg]
    | false => rw [(fl_gr r p).2]; simp [chg]
/-! ### a row of stretches -/
def his (l : List Sq) : List Int := l.filterMap fun s => s.2.map (· + 1)
theorem flat_mem {x : Int} : ∀ {l : List Sq}, x ∈ flat l ↔ x ∈ l.map (·.1) ∨ x ∈ his l
  | [] => by simp [flat, his]
  | (a, none) :: r => by
    have ih := flat_mem (x := x) (l := r)
    simp only [flat, his, List.mem_cons, List.map_cons, List.filterMap_cons, Option.map_none] at ih ⊢
    rw [ih]
    constructor
    · rintro (z | z | z) <;> simp_all
    · rintro ((z | z) | z) <;> simp_all
  | (a, some b) :: r => by
    have ih := flat_mem (x := x) (l := r)
    simp only [flat, his, List.mem_cons, List.map_cons, List.filterMap_cons, Option.map_some] at ih ⊢
    rw [ih]
    constructor
    · rintro (z | z | z | z) <;> simp_all
    · rintro ((z | z) | z | z) <;> simp_all
def seams (l : List Sq) : List Int := ([0] ++ l.map (·.1)) ++ his l
def pts (l : List Sq) : List Int := srtU (seams l)
theorem pts_up (l : List Sq) : Up (pts l) := up_srtU _
theorem pts_mem {l : List Sq} {x : Int} : x ∈ pts l ↔ x = 0 ∨ x ∈ flat l := by
  unfold pts seams
  rw [mem_srtU, flat_mem]
  simp only [List.mem_append, List.mem_singleton]
  constructor
  · rintro ((z | z) | z) <;> simp_all
  · rintro (z | z | z) <;> simp_all
theorem flat_app (a b : List Sq) : flat (a ++ b) = flat a ++ flat b := by
  induction a with
  | nil => rfl
  | cons s r ih =>
    obtain ⟨x, y⟩ := s
    cases y <;> simp [flat, ih]
/-- a stretch -/
def okS (s : Sq) : Prop := 0 ≤ s.1 ∧ ∀ h, s.2 = some h → s.1 ≤ h
theorem inS_ch {s : Sq} {x : Int} (h : inS s x ≠ inS s (x - 1)) : x ∈ flat [s] := by
  obtain ⟨a, b⟩ := s
  cases b with
  | none =>
    simp only [flat, List.mem_singleton]
    by_cases e : x = a
    · exact e
    · refine (h ?_).elim
      have : (a ≤ x) = (a ≤ x - 1) := by apply propext; constructor <;> intro z <;> omega
      simp only [inS, this]
  | some b =>
    simp only [flat, List.mem_cons, List.not_mem_nil, or_false]
    by_cases e : x = a
    · exact .inl e
    · by_cases e2 : x = b + 1
      · exact .inr e2
      · refine (h ?_).elim
        have q1 : (a ≤ x) = (a ≤ x - 1) := by apply propext; constructor <;> intro z <;> omega
        have q2 : (x ≤ b) = (x - 1 ≤ b) := by apply propext; constructor <;> intro z <;> omega
        simp only [inS, q1, q2]
theorem inS_tp {s : Sq} (h : okS s) : Tp (flat [s]) (inS s) := by
  obtain ⟨a, b⟩ := s
  obtain ⟨h0, h1⟩ := h
  dsimp only at h0 h1
  refine ⟨?_, fun x => ⟨fun m => ?_, inS_ch⟩, fun n hn => ?_⟩
  · cases b with
    | none => simp [flat]
    | some b =>
      have := h1 b rfl
      simp [flat]; omega
  · cases b with
    | none =>
      simp only [flat, List.mem_singleton] at m
      subst m
      have : ¬ x ≤ x - 1 := by omega
      simp [inS, this]
    | some b =>
      have := h1 b rfl
      simp only [flat, List.mem_cons, List.not_mem_nil, or_false] at m
      rcases m with m | m
      · subst m
        have q : ¬ x ≤ x - 1 := by omega
        simp [inS, q, this]
      · subst m
        have q1 : ¬ b + 1 ≤ b := by omega
        have q2 : a ≤ b + 1 - 1 := by omega
        have q3 : b + 1 - 1 ≤ b := by omega
        simp only [inS, q1, q2, q3]
        simp
  · have : ¬ a ≤ n := by omega
    simp [inS, this]
theorem wi_ch {x : Int} : ∀ {l : List Sq}, wi l x ≠ wi l (x - 1) → x ∈ flat l
  | [], h => (h rfl).elim
  | s :: r, h => by
    have e := flat_app [s] r
    rw [List.singleton_append] at e
    rw [e, List.mem_append]
    by_cases a : inS s x = inS s (x - 1)
    · refine .inr (wi_ch fun z => h ?_)
      unfold wi at z ⊢
      rw [List.any_cons, List.any_cons, a, z]
    · exact .inl (inS_ch a)
theorem wi_ng {l : List Sq} (h : ∀ s ∈ l, okS s) {n : Int} (hn : n < 0) : wi l n = false := wi_far fun s hs => by have := (h s hs).1; omega
/-- the law's own answer at the places of a row, for what changes at these places only -/
def lawOf (l : List Sq) (f : Int → Bool) : List Int := chg false ((pts l).map fun p => (p, f p))
theorem lawOf_tp {l : List Sq} {f : Int → Bool} (ng : ∀ n, n < 0 → f n = false) (hm : ∀ x, f x ≠ f (x - 1) → x ∈ flat l) : Tp (lawOf l f) f :=
  chg_tp (pts_up l) ng fun x hx => pts_mem.mpr (.inr (hm x hx))
theorem pr_ok {t : List Int} : Up t → (∀ x ∈ t, 0 ≤ x) → ∀ s ∈ pr t, okS s := by
  induction t using pr.induct with
  | case1 => intro _ _ s h; simp [pr] at h
  | case2 x =>
    intro _ hn s h
    simp [pr] at h
    subst h
    exact ⟨hn x (by simp), fun _ z => by cases z⟩
  | case3 x y r ih =>
    intro hu hn s h
    obtain ⟨h1, h2⟩ := List.pairwise_cons.mp hu
    simp only [pr, List.mem_cons] at h
    rcases h with h | h
    · subst h
      refine ⟨hn x (by simp), fun q z => ?_⟩
      cases z
      have := h1 y (by simp)
      dsimp only
      omega
    · exact ih (List.pairwise_cons.mp h2).2 (fun z hz => hn z (by simp [hz])) s h
end SP

namespace SP
open PySem PySem.Spec L2 DL LC
def oD : Option Int → D
  | none => .non
  | some h => .int h
def eD (s : Sq) : D := .tup [.int s.1, oD s.2]
theorem ret_fz {m : MA} {n : Nat} {as ds : List D} {sl : List Slot} {st st' : List Ob} (h : m ⟨slots n as, st⟩ = .ok ds ⟨sl, st'⟩) : fnM n (mRet (mFz m)) as st = .ok (.lst ds) st' := by
  simp [fnM, mRet, mFz, bnd, h, DL.ret, endR]
theorem ret_tup {m : MA} {ds : List D} {s s' : S} (h : m s = .ok ds s') : endR (mRet (mUn fTuple (mFz m)) s) = .ok (.tup ds) s'.st := by
  simp only [mRet, mUn, mFz, bnd, DL.ret, h, fTuple, itD, Option.map_some, lift, endR]
theorem own_app {i : Nat} {m m2 : MA} {ds es : List D} {s s' s'' : S} (h : m s = .ok ds s') (h2 : m2 s' = .ok es s'') (hf : few (ds.length + es.length)) : mOwn i (mBinF lAddL (mFz m) (mFz m2)) s = .ok .nx (s''.put i (.own (ds ++ es))) := by
  simp only [mOwn, mBinF, mFz, bnd, DL.ret, h, h2, lAddL, hf, if_true]
/-! ### comprehensions that change nothing, with a test -/
theorem lcs_gen {g : MG} {t : MT} {m : ME} {vs : List Nat} {s : S} {F : D → Option D} : ∀ (ds acc : List D), (∀ d ∈ ds, ∃ l, g d = some l ∧ noX (s.puts l) = true ∧ wipeS (s.puts l) vs = s ∧ match F d with
      | none => t (s.puts l) = .ok false (s.puts l)
      | some z => t (s.puts l) = .ok true (s.puts l) ∧ m (s.puts l) = .ok z (s.puts l)) → few (acc.length + ds.length) → lcs g t m vs acc ds s = .ok (acc ++ ds.filterMap F) s
  | [], acc, _, _ => by simp [lcs]
  | d :: ds, acc, h, hf => by
    obtain ⟨l, h1, h2, h3, h4⟩ := h d List.mem_cons_self
    unfold lcs
    cases hF : F d with
    | none =>
      rw [hF] at h4
      have ih := lcs_gen ds acc (fun x hx => h x (List.mem_cons_of_mem _ hx)) (by unfold few at hf ⊢; simp at hf; omega)
      simp only [h1, h4, h2, h3, if_true, Bool.false_eq_true, if_false]
      rw [ih, List.filterMap_cons, hF]
    | some z =>
      rw [hF] at h4
      have ih := lcs_gen ds (acc ++ [z]) (fun x hx => h x (List.mem_cons_of_mem _ hx)) (by unfold few at hf ⊢; simp at hf ⊢; omega)
      have f1 : few (acc.length + 1) := by unfold few at hf ⊢; simp at hf; omega
      simp only [h1, h4.1, h4.2, h2, h3, if_true, f1, and_self]
      rw [ih, List.filterMap_cons, hF]
      simp
theorem lc_gen {it : MA} {g : MG} {t : MT} {m : ME} {vs : List Nat} {s0 s : S} {ds : List D} {F : D → Option D} (hit : it s0 = .ok ds s) (hx : noX s = true) (hw : wipeS s vs = s) (h : ∀ d ∈ ds, ∃ l, g d = some l ∧ noX (s.puts l) = true ∧ wipeS (s.puts l) vs = s ∧ match F d with
      | none => t (s.puts l) = .ok false (s.puts l)
      | some z => t (s.puts l) = .ok true (s.puts l) ∧ m (s.puts l) = .ok z (s.puts l)) (hf : few ds.length) : mLc it g t m vs s0 = .ok (ds.filterMap F) s := by
  unfold mLc
  rw [bnd_of hit]
  simp only [hx, if_true, hw]
  rw [lcs_gen ds [] h (by simpa using hf)]
  simp
/-! ### turning_points -/
theorem lcs2_step {g : MG} {t : MT} {it1 : MA} {g1 : MG} {t1 : MT} {m : ME} {vs vs1 : List Nat} {acc acc' es ds : List D} {d : D} {l : List (Nat × D)} {s s5 s6 s7 : S} (h1 : g d = some l) (h2 : t (s.puts l) = .ok true s5) (h3 : it1 s5 = .ok es s6) (h4 : noX s6 = true) (h5 : lcs g1 t1 m vs1 acc es (wipeS s6 vs1) = .ok acc' s7) :
    lcs2 g t it1 g1 t1 m vs vs1 acc (d :: ds) s = lcs2 g t it1 g1 t1 m vs vs1 acc' ds (wipeS s7 vs) := by
  rw [lcs2]
  simp only [h1, h2, h3, h4, h5, if_true]
def tpIt : MA := mIfF (mBl (mBin fIsN (mVar 2) (mC .non))) (mLst (mCons (mVar 1) mNil)) (mLst (mCons (mVar 1) (mCons (mBin fAdd (mVar 2) (mC (.int 1))) mNil)))
theorem tpIt_eq (d : D) (st : List Ob) (s : Sq) : tpIt ⟨[.imm d, .imm (.int s.1), .imm (oD s.2), .emp], st⟩ = .ok ((flat [s]).map .int) ⟨[.imm d, .imm (.int s.1), .imm (oD s.2), .emp], st⟩ := by
  obtain ⟨a, b⟩ := s
  cases b <;> simp [tpIt, oD, flat, mIfF, mBl, mBin, fIsN, DL.isNon, mVar, mC, bnd, DL.ret, lift, optB, isBl, mLst, mCons, mNil, few, fAdd]
theorem tpl (d : D) (st : List Ob) : ∀ (l : List Sq) (acc : List D), acc.length + 2 * l.length ≤ 1000000 →
    lcs2 (gTp 2 (gsCons (gNm 1) (gsCons (gNm 2) gsNil))) mYes tpIt (gNm 3) mYes (mVar 3) [1, 2, 3] [3] acc (l.map eD) ⟨[.imm d, .emp, .emp, .emp], st⟩ = .ok (acc ++ (flat l).map .int) ⟨[.imm d, .emp, .emp, .emp], st⟩
  | [], acc, _ => by simp [lcs2, flat]
  | s :: r, acc, h => by
    have hlen : (flat [s]).length ≤ 2 := by obtain ⟨a, b⟩ := s; cases b <;> simp [flat]
    have ih := tpl d st r (acc ++ (flat [s]).map .int) (by simp at h ⊢; omega)
    have e : flat (s :: r) = flat [s] ++ flat r := flat_app [s] r
    have inner := lcs_map (i := 3) (m := mVar 3) (f := id) (s := ⟨[.imm d, .imm (.int s.1), .imm (oD s.2), .emp], st⟩) rfl rfl ((flat [s]).map .int) acc (fun x _ => rfl) (by unfold few; simp at h ⊢; omega)
    rw [List.map_id] at inner
    rw [List.map_cons, lcs2_step (l := [(1, .int s.1), (2, oD s.2)]) (s5 := ⟨[.imm d, .imm (.int s.1), .imm (oD s.2), .emp], st⟩) rfl rfl (tpIt_eq d st s) rfl inner]
    show lcs2 _ _ _ _ _ _ _ _ _ (r.map eD) ⟨[.imm d, .emp, .emp, .emp], st⟩ = _
    rw [ih, e]
    simp
theorem tp_eq {d : D} {l : List Sq} {st : List Ob} (hi : itD d = some (l.map eD)) (hl : 2 * l.length ≤ 1000000) : f_turning_points [d] st = .ok (.lst ((flat l).map .int)) st := by
  have h := tpl d st l [] (by simpa using hl)
  simp only [List.nil_append] at h
  have e : mLc2 (mIt (mVar 0)) (gTp 2 (gsCons (gNm 1) (gsCons (gNm 2) gsNil))) mYes tpIt (gNm 3) mYes (mVar 3) [1, 2, 3] [3] ⟨[.imm d, .emp, .emp, .emp], st⟩ = .ok ((flat l).map .int) ⟨[.imm d, .emp, .emp, .emp], st⟩ := by
    unfold mLc2
    rw [bnd_of (a := l.map eD) (s' := ⟨[.imm d, .emp, .emp, .emp], st⟩) (by simp [mIt, mVar, bnd, hi])]
    exact h
  exact ret_fz (n := 4) e
theorem tp_every (st : List Ob) : f_turning_points [.kt [.kt [.int 0, .non]]] st = .ok (.lst [.int 0]) st := rfl
/-! ### paired -/
theorem rng_tab : ((List.range 1001).all fun n => Builtin.Range.small 0 n 2 && decide (Builtin.Range.rangeSize 0 n 2 = ((n + 1) / 2 : Nat))) = true := by decide +kernel
theorem rng2_eq {n : Nat} (h : n ≤ 1000) : rng3 [.int 0, .int n, .int 2] = some (stepsD 0 2 ((n + 1) / 2)) := by
  have t := List.all_eq_true.mp rng_tab n (List.mem_range.mpr (by omega))
  obtain ⟨h1, h2⟩ := Bool.and_eq_true_iff.mp t
  have h2 := of_decide_eq_true h2
  unfold rng3
  dsimp only
  rw [h1, h2, if_pos ⟨by decide, by decide, rfl, by omega⟩, Int.toNat_natCast]
theorem pr_ix : ∀ t : List Int, (List.range ((t.length + 1) / 2)).map (fun k => ((t[2 * k]?.getD 0, t[2 * k + 1]?.map (· - 1)) : Sq)) = pr t
  | [] => rfl
  | [x] => by simp [pr, List.range_succ]
  | x :: y :: r => by
    have e : ((x :: y :: r).length + 1) / 2 = (r.length + 1) / 2 + 1 := by simp only [List.length_cons]; omega
    rw [e, List.range_succ_eq_map, List.map_cons, List.map_map]
    have ih := pr_ix r
    unfold pr
    rw [← ih]
    congr 1
theorem atI_nat {xs : List D} {k : Nat} {d : D} (h : xs[k]? = some d) : atI xs (k : Int) = some d := by
  have hk : k < xs.length := (List.getElem?_eq_some_iff.mp h).1
  unfold atI ixN
  rw [if_pos (by omega), if_pos (by omega)]
  simpa using h
def ends (t : List Int) : List D := t.map (fun x => .int (x - 1)) ++ [.non]
theorem ends_get (t : List Int) {k : Nat} (h : k ≤ t.length) : (ends t)[k]? = some (oD (t[k]?.map (· - 1))) := by
  unfold ends
  by_cases e : k < t.length
  · rw [List.getElem?_append_left (by simpa using e)]
    simp [e, oD]
  · have : k = t.length := by omega
    subst this
    simp [oD]
def prEl : ME := mTup (mCons (mIxN 0 (mVar 3)) (mCons (mIxN 1 (mBin fAdd (mVar 3) (mC (.int 1)))) mNil))
theorem prEl_eq {t : List Int} {k : Nat} (st : List Ob) (h : k < t.length) : prEl ⟨[.imm (.lst (t.map .int)), .own (ends t), .emp, .imm (.int k)], st⟩ = .ok (eD (t[k]?.getD 0, t[k + 1]?.map (· - 1))) ⟨[.imm (.lst (t.map .int)), .own (ends t), .emp, .imm (.int k)], st⟩ := by
  have a1 : atI (t.map D.int) (k : Int) = some (.int (t[k]?.getD 0)) := atI_nat (by simp [h])
  have a2 : atI (ends t) ((k : Int) + 1) = some (oD (t[k + 1]?.map (· - 1))) := by
    have := atI_nat (k := k + 1) (ends_get t (k := k + 1) (by omega))
    simpa using this
  simp [prEl, mTup, mCons, mNil, mIxN, mIxV, mVar, mBin, mC, fAdd, bnd, DL.ret, cur, ixD, lift, a1, a2, few, eD]
theorem paired_gen {a : MS} {m : MA} {n : Nat} {as ds : List D} {st : List Ob} {s1 s2 : S} (h1 : a ⟨slots n as, st⟩ = .ok .nx s1) (h2 : m s1 = .ok ds s2) : fnM n (mSeq a (mRet (mUn fTuple (mFz m)))) as st = .ok (.tup ds) s2.st := by
  unfold fnM
  rw [seq_nx h1]
  exact ret_tup h2
theorem paired_c1 {t : List Int} {st : List Ob} (h : t.length ≤ 1000) : mLc (mIt (mVar 0)) (gNm 2) mYes (mBin iSub (mVar 2) (mC (.int 1))) [2] ⟨[.imm (.lst (t.map .int)), .emp, .emp, .emp], st⟩ = .ok (t.map fun x => D.int (x - 1)) ⟨[.imm (.lst (t.map .int)), .emp, .emp, .emp], st⟩ := by
  have c1 := lc_map (i := 2) (it := mIt (mVar 0)) (m := mBin iSub (mVar 2) (mC (.int 1))) (f := fun d => match d with | .int q => .int (q - 1) | d => d) (s0 := ⟨[.imm (.lst (t.map .int)), .emp, .emp, .emp], st⟩) (s := ⟨[.imm (.lst (t.map .int)), .emp, .emp, .emp], st⟩) (ds := t.map .int) (by simp [mIt, mVar, bnd, itD]) rfl rfl (fun d hd => by
    obtain ⟨x, _, rfl⟩ := List.mem_map.mp hd
    simp [mBin, iSub, intF, mVar, mC, bnd, DL.ret, lift, S.put]) (by unfold few; simp; omega)
  rw [c1, List.map_map]; rfl
theorem one_non (s : S) : mLst (mCons (mC .non) mNil) s = .ok [.non] s := by simp [mLst, mCons, mC, mNil, bnd, DL.ret, few]
def prF (t : List Int) (d : D) : D := match d with | .int q => eD (t[q.toNat]?.getD 0, t[q.toNat + 1]?.map (· - 1)) | d => d
theorem prF_nat (t : List Int) (k : Nat) : prF t (.int (k : Int)) = eD (t[k]?.getD 0, t[k + 1]?.map (· - 1)) := by
  unfold prF
  dsimp only
  rw [Int.toNat_natCast]
theorem steps_mem {m : Nat} {d : D} (h : d ∈ stepsD 0 2 m) : ∃ i : Nat, i < m ∧ d = .int ((2 * i : Nat) : Int) := by
  obtain ⟨i, hi⟩ := List.mem_iff_getElem?.mp h
  obtain ⟨h1, e⟩ := stepsD_get hi
  refine ⟨i, h1, ?_⟩
  rw [e]
  congr 1
  omega
theorem steps_map (t : List Int) (m : Nat) : (stepsD 0 2 m).map (prF t) = (List.range m).map fun k => eD (t[2 * k]?.getD 0, t[2 * k + 1]?.map (· - 1)) := by
  unfold stepsD
  rw [List.map_map]
  refine List.map_congr_left fun k _ => ?_
  have e : (0 : Int) + (k : Int) * 2 = ((2 * k : Nat) : Int) := by omega
  show prF t (.int ((0 : Int) + (k : Int) * 2)) = _
  rw [e, prF_nat]
theorem prEl_F {t : List Int} {d : D} (st : List Ob) (h : d ∈ stepsD 0 2 ((t.length + 1) / 2)) (E : List D) (hE : E = ends t) : prEl (S.put ⟨[.imm (.lst (t.map .int)), .own E, .emp, .emp], st⟩ 3 (.imm d)) = .ok (prF t d) (S.put ⟨[.imm (.lst (t.map .int)), .own E, .emp, .emp], st⟩ 3 (.imm d)) := by
  obtain ⟨i, h1, rfl⟩ := steps_mem h
  subst hE
  rw [prF_nat]
  exact prEl_eq st (by omega)
theorem rng_gen {rg : List D → Option (List D)} {x z : D} {T R : List D} {st : List Ob} {a b c : Slot} (h : rg [x, .int T.length, z] = some R) : mRng rg (mCons (mC x) (mCons (mUn fLen (mLook 0)) (mCons (mC z) mNil))) ⟨[.imm (.lst T), a, b, c], st⟩ = .ok R ⟨[.imm (.lst T), a, b, c], st⟩ := by
  simp [mRng, mCons, mNil, mC, mUn, fLen, itD, mLook, cur, bnd, DL.ret, lift, h]
theorem rng_it {t : List Int} (st : List Ob) (h : t.length ≤ 1000) (a b c : Slot) : mRng rng3 (mCons (mC (.int 0)) (mCons (mUn fLen (mLook 0)) (mCons (mC (.int 2)) mNil))) ⟨[.imm (.lst (t.map .int)), a, b, c], st⟩ = .ok (stepsD 0 2 ((t.length + 1) / 2)) ⟨[.imm (.lst (t.map .int)), a, b, c], st⟩ := by
  have e : rng3 [.int 0, .int (((t.map D.int).length : Nat) : Int), .int 2] = some (stepsD 0 2 ((t.length + 1) / 2)) := by rw [List.length_map]; exact rng2_eq h
  exact rng_gen e
theorem steps_few {n : Nat} (h : n ≤ 1000) : few (stepsD 0 2 n).length := by unfold few stepsD; simp; omega
theorem paired_c2 {t : List Int} {st : List Ob} (h : t.length ≤ 1000) : mLc (mRng rng3 (mCons (mC (.int 0)) (mCons (mUn fLen (mLook 0)) (mCons (mC (.int 2)) mNil)))) (gNm 3) mYes prEl [3] ⟨[.imm (.lst (t.map .int)), .own (ends t), .emp, .emp], st⟩ = .ok ((pr t).map eD) ⟨[.imm (.lst (t.map .int)), .own (ends t), .emp, .emp], st⟩ := by
  generalize hE : ends t = E
  rw [lc_map (i := 3) (f := prF t) (rng_it st h _ _ _) rfl rfl (fun d hd => prEl_F st hd E hE.symm) (steps_few (by omega)), steps_map, ← pr_ix t, List.map_map]
  rfl
theorem paired_eq {t : List Int} {st : List Ob} (h : t.length ≤ 1000) : f_paired [.lst (t.map .int)] st = .ok (.tup ((pr t).map eD)) st :=
  paired_gen (n := 4) (s1 := ⟨[.imm (.lst (t.map .int)), .own (ends t), .emp, .emp], st⟩) (s2 := ⟨[.imm (.lst (t.map .int)), .own (ends t), .emp, .emp], st⟩) (own_app (i := 1) (paired_c1 h) (one_non _) (by unfold few; simp; omega)) (paired_c2 h)
end SP

namespace SP
open PySem PySem.Spec L2 DL LC
theorem eq_int (i j : Int) : fEq (.int i) (.int j) = some (.bl (decide (i = j))) := by
  simp [fEq, dEq, deq, sc]
  by_cases h : i = j <;> simp [h]
theorem ne_bl (a b : Bool) : fNe (.bl a) (.bl b) = some (.bl (a != b)) := by
  cases a <;> cases b <;> rfl
theorem atI_map (t : List Int) (a : Nat) (h : a < t.length) : atI (t.map D.int) (a : Int) = some (.int t[a]) := atI_nat (by simp [h])
abbrev cS (o w k t u : D) (a b : Int) (told : List D) (z : Slot) (st : List Ob) : S := ⟨[.imm o, .imm w, .imm k, .imm t, .imm u, .imm (.int a), .imm (.int b), .own told, z], st⟩
def c2 : MS := mIfS (mAndT (mBl (mBin iLt (mVar 5) (mUn fLen (mLook 3)))) (mBl (mBin fEq (mIxN 3 (mVar 5)) (mVar 8)))) (mSet 5 (mBin fAdd (mVar 5) (mC (.int 1)))) mPass
theorem c2_eq {o w k u : D} {t : List Int} {a : Nat} {b z : Int} {told : List D} {st : List Ob} : c2 (cS o w k (.lst (t.map .int)) u a b told (.imm (.int z)) st) = .ok .nx (cS o w k (.lst (t.map .int)) u ((if t[a]? = some z then a + 1 else a : Nat) : Int) b told (.imm (.int z)) st) := by
  by_cases h : a < t.length
  · have e := atI_map t a h
    by_cases q : t[a] = z
    · simp [c2, mIfS, mAndT, mBl, mBin, iLt, intF, mVar, mUn, fLen, itD, mLook, cur, bnd, DL.ret, lift, optB, isBl, mIxN, mIxV, ixD, e, eq_int, q, mSet, mC, fAdd, S.put, mPass, h]
    · simp [c2, mIfS, mAndT, mBl, mBin, iLt, intF, mVar, mUn, fLen, itD, mLook, cur, bnd, DL.ret, lift, optB, isBl, mIxN, mIxV, ixD, e, eq_int, q, mSet, mC, fAdd, S.put, mPass, h]
  · have e : t[a]? = none := by simp; omega
    simp [c2, mIfS, mAndT, mBl, mBin, iLt, intF, mVar, mUn, fLen, itD, mLook, cur, bnd, DL.ret, lift, optB, isBl, mPass, h, e]
def c3 : MS := mIfS (mAndT (mBl (mBin iLt (mVar 6) (mUn fLen (mLook 4)))) (mBl (mBin fEq (mIxN 4 (mVar 6)) (mVar 8)))) (mSet 6 (mBin fAdd (mVar 6) (mC (.int 1)))) mPass
theorem c3_eq {o w k u : D} {t : List Int} {a : Int} {b : Nat} {z : Int} {told : List D} {st : List Ob} : c3 (cS o w k u (.lst (t.map .int)) a b told (.imm (.int z)) st) = .ok .nx (cS o w k u (.lst (t.map .int)) a ((if t[b]? = some z then b + 1 else b : Nat) : Int) told (.imm (.int z)) st) := by
  by_cases h : b < t.length
  · have e := atI_map t b h
    by_cases q : t[b] = z
    · simp [c3, mIfS, mAndT, mBl, mBin, iLt, intF, mVar, mUn, fLen, itD, mLook, cur, bnd, DL.ret, lift, optB, isBl, mIxN, mIxV, ixD, e, eq_int, q, mSet, mC, fAdd, S.put, mPass, h]
    · simp [c3, mIfS, mAndT, mBl, mBin, iLt, intF, mVar, mUn, fLen, itD, mLook, cur, bnd, DL.ret, lift, optB, isBl, mIxN, mIxV, ixD, e, eq_int, q, mSet, mC, fAdd, S.put, mPass, h]
  · have e : t[b]? = none := by simp; omega
    simp [c3, mIfS, mAndT, mBl, mBin, iLt, intF, mVar, mUn, fLen, itD, mLook, cur, bnd, DL.ret, lift, optB, isBl, mPass, h, e]
def c1 : MS := mIfS (mOrT (mBl (mBin fEq (mVar 6) (mUn fLen (mLook 4)))) (mAndT (mBl (mBin iLt (mVar 5) (mUn fLen (mLook 3)))) (mBl (mBin iLt (mIxN 3 (mVar 5)) (mIxN 4 (mVar 6)))))) (mSet 8 (mIxN 3 (mVar 5))) (mSet 8 (mIxN 4 (mVar 6)))
theorem c1_a {o w k : D} {t u : List Int} {a b : Nat} {told : List D} {z : Slot} {st : List Ob} (ha : a < t.length) (h : b = u.length ∨ ∃ hb : b < u.length, t[a] < u[b]) : c1 (cS o w k (.lst (t.map .int)) (.lst (u.map .int)) a b told z st) = .ok .nx (cS o w k (.lst (t.map .int)) (.lst (u.map .int)) a b told (.imm (.int t[a])) st) := by
  have e := atI_map t a ha
  rcases h with h | ⟨hb, h⟩
  · subst h
    simp [c1, mIfS, mOrT, mAndT, mBl, mBin, iLt, intF, mVar, mUn, fLen, itD, mLook, cur, bnd, DL.ret, lift, optB, isBl, mIxN, mIxV, ixD, e, eq_int, mSet, S.put]
  · have e2 := atI_map u b hb
    have ne : ¬ (b : Int) = (u.length : Int) := by omega
    simp [c1, mIfS, mOrT, mAndT, mBl, mBin, iLt, intF, mVar, mUn, fLen, itD, mLook, cur, bnd, DL.ret, lift, optB, isBl, mIxN, mIxV, ixD, e, e2, eq_int, mSet, S.put, ha, h, ne]
theorem c1_b {o w k : D} {t u : List Int} {a b : Nat} {told : List D} {z : Slot} {st : List Ob} (hb : b < u.length) (h : ∀ ha : a < t.length, ¬ t[a] < u[b]) : c1 (cS o w k (.lst (t.map .int)) (.lst (u.map .int)) a b told z st) = .ok .nx (cS o w k (.lst (t.map .int)) (.lst (u.map .int)) a b told (.imm (.int u[b])) st) := by
  have e2 := atI_map u b hb
  have ne : ¬ (b : Int) = (u.length : Int) := by omega
  by_cases ha : a < t.length
  · have e := atI_map t a ha
    have h := h ha
    simp [c1, mIfS, mOrT, mAndT, mBl, mBin, iLt, intF, mVar, mUn, fLen, itD, mLook, cur, bnd, DL.ret, lift, optB, isBl, mIxN, mIxV, ixD, e, e2, eq_int, mSet, S.put, ha, h, ne]
  · simp [c1, mIfS, mOrT, mAndT, mBl, mBin, iLt, intF, mVar, mUn, fLen, itD, mLook, cur, bnd, DL.ret, lift, optB, isBl, mIxN, mIxV, ixD, e2, eq_int, mSet, S.put, ha, ne]
def c4 : MS := mIfS (mBl (mBin fNe (mIxN 2 (mBin fAdd (mBin fMul (mBin iMod (mVar 5) (mC (.int 2))) (mC (.int 2))) (mBin iMod (mVar 6) (mC (.int 2))))) (mBin fEq (mBin iMod (mUn fLen (mLook 7)) (mC (.int 2))) (mC (.int 1))))) (mExpr (mApp 7 (mVar 8))) mPass
def kD (k : Bool → Bool → Bool) : D := .kt [.bl (k false false), .bl (k false true), .bl (k true false), .bl (k true true)]
def od (n : Nat) : Bool := decide (n % 2 = 1)
theorem kD_ix (k : Bool → Bool → Bool) (a b : Nat) : ixD (kD k) (.int ((a : Int) % 2 * 2 + (b : Int) % 2)) = some (.bl (k (od a) (od b))) := by
  have ha : (a : Int) % 2 = 0 ∧ a % 2 = 0 ∨ (a : Int) % 2 = 1 ∧ a % 2 = 1 := by omega
  have hb : (b : Int) % 2 = 0 ∧ b % 2 = 0 ∨ (b : Int) % 2 = 1 ∧ b % 2 = 1 := by omega
  rcases ha with ⟨h1, h2⟩ | ⟨h1, h2⟩ <;> rcases hb with ⟨h3, h4⟩ | ⟨h3, h4⟩ <;> simp [h1, h2, h3, h4, kD, ixD, atI, ixN, od]
theorem c4_eq {o w t u : D} {k : Bool → Bool → Bool} {a b : Nat} {z : Int} {told : List Int} {st : List Ob} (hl : told.length < 1000) : c4 (cS o w (kD k) t u a b (told.map .int) (.imm (.int z)) st) = .ok .nx (cS o w (kD k) t u a b ((if k (od a) (od b) = od told.length then told else told ++ [z]).map .int) (.imm (.int z)) st) := by
  have e := kD_ix k a b
  have m1 : fMul (.int ((a : Int) % 2)) (.int 2) = some (.int ((a : Int) % 2 * 2)) := mul_ok (by omega) (by omega) (by omega) (by omega)
  have q : (decide ((told.length : Int) % 2 = 1)) = od told.length := by
    unfold od
    by_cases h : told.length % 2 = 1
    · have : (told.length : Int) % 2 = 1 := by omega
      simp [h, this]
    · have : ¬ (told.length : Int) % 2 = 1 := by omega
      simp [h, this]
  have fw : told.length + 1 ≤ 1000000 := by omega
  by_cases c : k (od a) (od b) = od told.length
  · simp [c4, mIfS, mBl, mBin, iMod, intF, mVar, mUn, fLen, itD, mLook, cur, bnd, DL.ret, lift, optB, isBl, mIxN, mIxV, e, m1, eq_int, ne_bl, mC, fAdd, q, c, mPass]
  · have c' : (k (od a) (od b) != od told.length) = true := by simpa using c
    simp [c4, mIfS, mBl, mBin, iMod, intF, mVar, mUn, fLen, itD, mLook, cur, bnd, DL.ret, lift, optB, isBl, mIxN, mIxV, e, m1, eq_int, ne_bl, mC, fAdd, q, c, c', mPass, mExpr, mApp, few, fw, S.put]
def cT : MT := mOrT (mBl (mBin iLt (mVar 5) (mUn fLen (mLook 3)))) (mBl (mBin iLt (mVar 6) (mUn fLen (mLook 4))))
theorem cT_eq {o w k : D} {t u : List Int} {a b : Nat} {told : List D} {z : Slot} {st : List Ob} : cT (cS o w k (.lst (t.map .int)) (.lst (u.map .int)) a b told z st) = .ok (decide (a < t.length) || decide (b < u.length)) (cS o w k (.lst (t.map .int)) (.lst (u.map .int)) a b told z st) := by
  by_cases h : a < t.length <;> by_cases h2 : b < u.length <;> simp [cT, mOrT, mBl, mBin, iLt, intF, mVar, mUn, fLen, itD, mLook, cur, bnd, DL.ret, lift, optB, isBl, h, h2]
def cB : MS := mSeq c1 (mSeq c2 (mSeq c3 c4))
theorem cB_eq {o w : D} {k : Bool → Bool → Bool} {t u : List Int} {a b : Nat} {told : List Int} {z : Slot} {x : Int} {st : List Ob} (hl : told.length < 1000)
    (h : c1 (cS o w (kD k) (.lst (t.map .int)) (.lst (u.map .int)) a b (told.map .int) z st) = .ok .nx (cS o w (kD k) (.lst (t.map .int)) (.lst (u.map .int)) a b (told.map .int) (.imm (.int x)) st)) {a2 b2 : Nat} (ea : (if t[a]? = some x then a + 1 else a) = a2) (eb : (if u[b]? = some x then b + 1 else b) = b2) :
    cB (cS o w (kD k) (.lst (t.map .int)) (.lst (u.map .int)) a b (told.map .int) z st) = .ok .nx (cS o w (kD k) (.lst (t.map .int)) (.lst (u.map .int)) a2 b2 ((if k (od a2) (od b2) = od told.length then told else told ++ [x]).map .int) (.imm (.int x)) st) := by
  subst ea eb
  unfold cB
  rw [seq_nx h, seq_nx c2_eq, seq_nx c3_eq]
  exact c4_eq hl
theorem od_succ (n : Nat) : od (n + 1) = !od n := by
  unfold od
  by_cases h : n % 2 = 1
  · have : ¬ (n + 1) % 2 = 1 := by omega
    simp [h, this]
  · have : (n + 1) % 2 = 1 := by omega
    simp [h, this]
theorem at_here (d : List Int) (x : Int) (r : List Int) : (d ++ x :: r)[d.length]? = some x := by simp
theorem wh_step {t : MT} {b : MS} {s s1 s2 : S} (h1 : t s = .ok true s1) (h2 : b s1 = .ok .nx s2) : mWhile t b s = mWhile t b s2 := by
  rw [mWhile_eq, bnd_of h1]
  simp only [if_true, h2]
theorem wh_end {t : MT} {b : MS} {s s1 : S} (h1 : t s = .ok false s1) : mWhile t b s = .ok .nx s1 := by
  rw [mWhile_eq, bnd_of h1]
  simp [DL.ret]
/-- what the loop does, by what is left of both lists -/
theorem c_loop {o w : D} {k : Bool → Bool → Bool} {st : List Ob} : ∀ (n : Nat) (d1 r1 d2 r2 told : List Int) (z : Slot), r1.length + r2.length = n → told.length + n < 1000 →
    ∃ z', mWhile cT cB (cS o w (kD k) (.lst ((d1 ++ r1).map .int)) (.lst ((d2 ++ r2).map .int)) d1.length d2.length (told.map .int) z st) =
      .ok .nx (cS o w (kD k) (.lst ((d1 ++ r1).map .int)) (.lst ((d2 ++ r2).map .int)) (d1 ++ r1).length (d2 ++ r2).length ((told ++ chg (od told.length) (mk k r1 r2 (od d1.length) (od d2.length))).map .int) z' st) := by
  intro n
  induction n using Nat.strongRecOn with
  | _ n ih =>
    intro d1 r1 d2 r2 told z hn hl
    -- what a step leaves
    have fin : ∀ (x : Int) (v : Bool) (rest : List (Int × Bool)), (if v = od told.length then told else told ++ [x]) ++ chg (od (if v = od told.length then told else told ++ [x]).length) rest = told ++ chg (od told.length) ((x, v) :: rest) := fun x v rest => by
      by_cases e : v = od told.length
      · rw [if_pos e, chg, if_pos e]
      · rw [if_neg e, chg, if_neg e, List.length_append, List.length_singleton, od_succ]
        have : (!od told.length) = v := by cases v <;> cases h : od told.length <;> simp_all
        rw [this]
        simp
    have lens : ∀ (x : Int) (v : Bool), (if v = od told.length then told else told ++ [x]).length ≤ told.length + 1 := fun x v => by
      split <;> simp
    match r1, r2, hn with
    | [], [], hn =>
      refine ⟨z, ?_⟩
      have t0 := cT_eq (o := o) (w := w) (k := kD k) (t := d1) (u := d2) (a := d1.length) (b := d2.length) (told := told.map .int) (z := z) (st := st)
      simp only [Nat.lt_irrefl, decide_false, Bool.or_self] at t0
      simp only [List.append_nil]
      rw [wh_end t0]
      unfold mk chg
      simp
    | x :: r, [], hn =>
      have hc := c1_a (o := o) (w := w) (k := kD k) (t := d1 ++ x :: r) (u := d2 ++ []) (a := d1.length) (b := d2.length) (told := told.map .int) (z := z) (st := st) (by simp) (.inl (by simp))
      have gx : (d1 ++ x :: r)[d1.length]'(by simp) = x := by simp
      rw [gx] at hc
      have hb := cB_eq (by omega) hc (a2 := d1.length + 1) (b2 := d2.length) (by rw [at_here, if_pos rfl]) (by simp)
      have ht := cT_eq (o := o) (w := w) (k := kD k) (t := d1 ++ x :: r) (u := d2 ++ []) (a := d1.length) (b := d2.length) (told := told.map .int) (z := z) (st := st)
      have : (decide (d1.length < (d1 ++ x :: r).length) || decide (d2.length < (d2 ++ []).length)) = true := by simp
      rw [this] at ht
      rw [wh_step ht hb]
      obtain ⟨z', e⟩ := ih (r.length + 0) (by simp at hn; omega) (d1 ++ [x]) r d2 [] (if k (od (d1.length + 1)) (od d2.length) = od told.length then told else told ++ [x]) (.imm (.int x)) (by simp) (by have := lens x (k (od (d1.length + 1)) (od d2.length)); simp at hn; omega)
      refine ⟨z', ?_⟩
      rw [List.append_assoc, List.singleton_append, List.length_append, List.length_singleton] at e
      rw [e, fin, od_succ]
      conv => rhs; unfold mk
    | [], y :: q, hn =>
      have hc := c1_b (o := o) (w := w) (k := kD k) (t := d1 ++ []) (u := d2 ++ y :: q) (a := d1.length) (b := d2.length) (told := told.map .int) (z := z) (st := st) (by simp) (fun h => by simp at h)
      have gx : (d2 ++ y :: q)[d2.length]'(by simp) = y := by simp
      rw [gx] at hc
      have hb := cB_eq (by omega) hc (a2 := d1.length) (b2 := d2.length + 1) (by simp) (by rw [at_here, if_pos rfl])
      have ht := cT_eq (o := o) (w := w) (k := kD k) (t := d1 ++ []) (u := d2 ++ y :: q) (a := d1.length) (b := d2.length) (told := told.map .int) (z := z) (st := st)
      have : (decide (d1.length < (d1 ++ []).length) || decide (d2.length < (d2 ++ y :: q).length)) = true := by simp
      rw [this] at ht
      rw [wh_step ht hb]
      obtain ⟨z', e⟩ := ih (0 + q.length) (by simp at hn; omega) d1 [] (d2 ++ [y]) q (if k (od d1.length) (od (d2.length + 1)) = od told.length then told else told ++ [y]) (.imm (.int y)) (by simp) (by have := lens y (k (od d1.length) (od (d2.length + 1))); simp at hn; omega)
      refine ⟨z', ?_⟩
      rw [List.append_assoc, List.singleton_append, List.length_append, List.length_singleton] at e
      rw [e, fin, od_succ]
      conv => rhs; unfold mk
    | x :: r, y :: q, hn =>
      have gx : (d1 ++ x :: r)[d1.length]'(by simp) = x := by simp
      have gy : (d2 ++ y :: q)[d2.length]'(by simp) = y := by simp
      have ht := cT_eq (o := o) (w := w) (k := kD k) (t := d1 ++ x :: r) (u := d2 ++ y :: q) (a := d1.length) (b := d2.length) (told := told.map .int) (z := z) (st := st)
      have : (decide (d1.length < (d1 ++ x :: r).length) || decide (d2.length < (d2 ++ y :: q).length)) = true := by simp
      rw [this] at ht
      have um : mk k (x :: r) (y :: q) (od d1.length) (od d2.length) = if x < y then (x, k (!od d1.length) (od d2.length)) :: mk k r (y :: q) (!od d1.length) (od d2.length) else if x = y then (x, k (!od d1.length) (!od d2.length)) :: mk k r q (!od d1.length) (!od d2.length) else (y, k (od d1.length) (!od d2.length)) :: mk k (x :: r) q (od d1.length) (!od d2.length) := by rw [mk]
      rw [um]
      by_cases c : x < y
      · rw [if_pos c]
        have hc := c1_a (o := o) (w := w) (k := kD k) (t := d1 ++ x :: r) (u := d2 ++ y :: q) (a := d1.length) (b := d2.length) (told := told.map .int) (z := z) (st := st) (by simp) (.inr ⟨by simp, by rw [gx, gy]; exact c⟩)
        rw [gx] at hc
        have hb := cB_eq (by omega) hc (a2 := d1.length + 1) (b2 := d2.length) (by rw [at_here, if_pos rfl]) (by rw [at_here, if_neg (fun z => by cases z; omega)])
        rw [wh_step ht hb]
        obtain ⟨z', e⟩ := ih (r.length + (q.length + 1)) (by simp at hn; omega) (d1 ++ [x]) r d2 (y :: q) (if k (od (d1.length + 1)) (od d2.length) = od told.length then told else told ++ [x]) (.imm (.int x)) (by simp) (by have := lens x (k (od (d1.length + 1)) (od d2.length)); simp at hn; omega)
        refine ⟨z', ?_⟩
        rw [List.append_assoc, List.singleton_append, List.length_append, List.length_singleton] at e
        rw [e, fin, od_succ]
      · rw [if_neg c]
        have hc := c1_b (o := o) (w := w) (k := kD k) (t := d1 ++ x :: r) (u := d2 ++ y :: q) (a := d1.length) (b := d2.length) (told := told.map .int) (z := z) (st := st) (by simp) (fun h => by rw [gx, gy]; exact c)
        rw [gy] at hc
        by_cases d : x = y
        · rw [if_pos d]
          subst d
          have hb := cB_eq (by omega) hc (a2 := d1.length + 1) (b2 := d2.length + 1) (by rw [at_here, if_pos rfl]) (by rw [at_here, if_pos rfl])
          rw [wh_step ht hb]
          obtain ⟨z', e⟩ := ih (r.length + q.length) (by simp at hn; omega) (d1 ++ [x]) r (d2 ++ [x]) q (if k (od (d1.length + 1)) (od (d2.length + 1)) = od told.length then told else told ++ [x]) (.imm (.int x)) (by simp) (by have := lens x (k (od (d1.length + 1)) (od (d2.length + 1))); simp at hn; omega)
          refine ⟨z', ?_⟩
          rw [List.append_assoc, List.append_assoc, List.singleton_append, List.singleton_append, List.length_append, List.length_append, List.length_singleton] at e
          rw [e, fin, od_succ, od_succ]
        · rw [if_neg d]
          have hb := cB_eq (by omega) hc (a2 := d1.length) (b2 := d2.length + 1) (by rw [at_here, if_neg (fun z => d (Option.some.inj z))]) (by rw [at_here, if_pos rfl])
          rw [wh_step ht hb]
          obtain ⟨z', e⟩ := ih ((r.length + 1) + q.length) (by simp at hn; omega) d1 (x :: r) (d2 ++ [y]) q (if k (od d1.length) (od (d2.length + 1)) = od told.length then told else told ++ [y]) (.imm (.int y)) (by simp) (by have := lens y (k (od d1.length) (od (d2.length + 1))); simp at hn; omega)
          refine ⟨z', ?_⟩
          rw [List.append_assoc, List.singleton_append, List.length_append, List.length_singleton] at e
          rw [e, fin, od_succ]
end SP

namespace SP
open PySem PySem.Spec L2 DL LC
theorem chg_len : ∀ (c : Bool) (l : List (Int × Bool)), (chg c l).length ≤ l.length
  | _, [] => by simp [chg]
  | c, (p, b) :: r => by
    unfold chg
    split
    · have := chg_len c r; simp; omega
    · have := chg_len b r; simp; omega
theorem mk_len (k : Bool → Bool → Bool) : ∀ (n : Nat) (t u : List Int) (a b : Bool), t.length + u.length = n → (mk k t u a b).length ≤ n := by
  intro n
  induction n using Nat.strongRecOn with
  | _ n ih =>
    intro t u a b hn
    match t, u, hn with
    | [], [], hn => unfold mk; simp
    | x :: r, [], hn =>
      have := ih (r.length + ([] : List Int).length) (by simp at hn ⊢; omega) r [] (!a) b rfl
      unfold mk
      simp at hn this ⊢
      omega
    | [], y :: q, hn =>
      have := ih (([] : List Int).length + q.length) (by simp at hn ⊢; omega) [] q a (!b) rfl
      unfold mk
      simp at hn this ⊢
      omega
    | x :: r, y :: q, hn =>
      have h1 := ih (r.length + (y :: q).length) (by simp at hn ⊢; omega) r (y :: q) (!a) b rfl
      have h2 := ih (r.length + q.length) (by simp at hn ⊢; omega) r q (!a) (!b) rfl
      have h3 := ih ((x :: r).length + q.length) (by simp at hn ⊢; omega) (x :: r) q a (!b) rfl
      unfold mk
      simp at hn h1 h2 h3
      split
      · simp; omega
      · split
        · simp; omega
        · simp; omega
theorem cmb_len (k : Bool → Bool → Bool) (t u : List Int) : (cmb k t u).length ≤ t.length + u.length := Nat.le_trans (chg_len _ _) (mk_len k _ t u false false rfl)
theorem comb_gen {ft fp : Fn} {T : MT} {B : MS} {d1 d2 k t u R : D} {a b : Int} {told : List D} {z : Slot} {st : List Ob} (h1 : ft [d1] st = .ok t st) (h2 : ft [d2] st = .ok u st) (h3 : mWhile T B (cS d1 d2 k t u 0 0 [] .emp st) = .ok .nx (cS d1 d2 k t u a b told z st)) (h4 : fp [.lst told] st = .ok R st) :
    fnM 9 (mSeq (mSet 3 (mCall ft (mCons (mVar 0) mNil))) (mSeq (mSet 4 (mCall ft (mCons (mVar 1) mNil))) (mSeq (mSet 5 (mC (.int 0))) (mSeq (mSet 6 (mC (.int 0))) (mSeq (mOwn 7 (mLst mNil)) (mSeq (mWhile T B) (mRet (mCall fp (mCons (mVar 7) mNil))))))))) [d1, d2, k] st = .ok R st := by
  have a1 : mSet 3 (mCall ft (mCons (mVar 0) mNil)) ⟨[.imm d1, .imm d2, .imm k, .emp, .emp, .emp, .emp, .emp, .emp], st⟩ = .ok .nx ⟨[.imm d1, .imm d2, .imm k, .imm t, .emp, .emp, .emp, .emp, .emp], st⟩ := by
    simp [mSet, mCall, mCons, mNil, mVar, bnd, DL.ret, h1, outR, S.put]
  have a2 : mSet 4 (mCall ft (mCons (mVar 1) mNil)) ⟨[.imm d1, .imm d2, .imm k, .imm t, .emp, .emp, .emp, .emp, .emp], st⟩ = .ok .nx ⟨[.imm d1, .imm d2, .imm k, .imm t, .imm u, .emp, .emp, .emp, .emp], st⟩ := by
    simp [mSet, mCall, mCons, mNil, mVar, bnd, DL.ret, h2, outR, S.put]
  have a3 : mSet 5 (mC (.int 0)) ⟨[.imm d1, .imm d2, .imm k, .imm t, .imm u, .emp, .emp, .emp, .emp], st⟩ = .ok .nx ⟨[.imm d1, .imm d2, .imm k, .imm t, .imm u, .imm (.int 0), .emp, .emp, .emp], st⟩ := by
    simp [mSet, mC, bnd, DL.ret, S.put]
  have a4 : mSet 6 (mC (.int 0)) ⟨[.imm d1, .imm d2, .imm k, .imm t, .imm u, .imm (.int 0), .emp, .emp, .emp], st⟩ = .ok .nx ⟨[.imm d1, .imm d2, .imm k, .imm t, .imm u, .imm (.int 0), .imm (.int 0), .emp, .emp], st⟩ := by
    simp [mSet, mC, bnd, DL.ret, S.put]
  have a5 : mOwn 7 (mLst mNil) ⟨[.imm d1, .imm d2, .imm k, .imm t, .imm u, .imm (.int 0), .imm (.int 0), .emp, .emp], st⟩ = .ok .nx (cS d1 d2 k t u 0 0 [] .emp st) := by
    simp [mOwn, mLst, mNil, bnd, DL.ret, few, S.put]
  show endR (mSeq _ _ ⟨[.imm d1, .imm d2, .imm k, .emp, .emp, .emp, .emp, .emp, .emp], st⟩) = _
  rw [seq_nx a1, seq_nx a2, seq_nx a3, seq_nx a4, seq_nx a5, seq_nx h3]
  simp [mRet, mCall, mCons, mNil, mVar, bnd, DL.ret, S.put, h4, outR, endR]
theorem comb_tp {d1 d2 : D} {k : Bool → Bool → Bool} {t u : List Int} {st : List Ob} (h1 : f_turning_points [d1] st = .ok (.lst (t.map .int)) st) (h2 : f_turning_points [d2] st = .ok (.lst (u.map .int)) st) (hl : t.length + u.length < 1000) :
    f_combined [d1, d2, kD k] st = .ok (.tup ((pr (cmb k t u)).map eD)) st := by
  obtain ⟨z', e⟩ := c_loop (o := d1) (w := d2) (k := k) (st := st) (t.length + u.length) [] t [] u [] .emp rfl (by simpa using hl)
  have hp := paired_eq (t := cmb k t u) (st := st) (by have := cmb_len k t u; omega)
  exact comb_gen (T := cT) (B := cB) h1 h2 e hp
theorem comb_eq {k : Bool → Bool → Bool} {d1 d2 : D} {l1 l2 : List Sq} {st : List Ob} (h1 : itD d1 = some (l1.map eD)) (h2 : itD d2 = some (l2.map eD)) (hl : l1.length + l2.length < 400) :
    f_combined [d1, d2, kD k] st = .ok (.tup ((pr (cmb k (flat l1) (flat l2))).map eD)) st := by
  have fl : ∀ l : List Sq, (flat l).length ≤ 2 * l.length := by
    intro l
    induction l with
    | nil => simp [flat]
    | cons s r ih => obtain ⟨a, b⟩ := s; cases b <;> (simp [flat]; omega)
  exact comb_tp (tp_eq h1 (by omega)) (tp_eq h2 (by omega)) (by have := fl l1; have := fl l2; omega)
end SP

namespace SP
open PySem PySem.Spec L2 DL LC
def dec : D → Sq
  | .tup [.int a, .int b] => (a, some b)
  | .tup [.int a, _] => (a, none)
  | _ => (0, none)
theorem dec_e (s : Sq) : dec (eD s) = s := by
  obtain ⟨a, b⟩ := s
  cases b <;> rfl
theorem fm_map {F : D → Option D} {G : Sq → D} : ∀ (l : List Sq), (∀ s ∈ l, F (eD s) = some (G s)) → (l.map eD).filterMap F = l.map G
  | [], _ => rfl
  | s :: r, h => by
    rw [List.map_cons, List.filterMap_cons, h s List.mem_cons_self, List.map_cons, fm_map r fun x hx => h x (List.mem_cons_of_mem _ hx)]
theorem bls_any : ∀ (l : List Sq) (f : Sq → Bool), blsD (l.map fun s => D.bl (f s)) = some (l.map f)
  | [], _ => rfl
  | s :: r, f => by simp [blsD, bls_any r f]
/-! ### _law_within -/
def wEl : ME := mAnd (mBin iLe (mVar 2) (mVar 1)) (mOr (mBin fIsN (mVar 3) (mC .non)) (mBin iLe (mVar 1) (mVar 3)))
theorem wEl_eq (d : D) (n : Int) (s : Sq) (st : List Ob) : wEl ⟨[.imm d, .imm (.int n), .imm (.int s.1), .imm (oD s.2)], st⟩ = .ok (.bl (inS s n)) ⟨[.imm d, .imm (.int n), .imm (.int s.1), .imm (oD s.2)], st⟩ := by
  obtain ⟨a, b⟩ := s
  cases b with
  | none =>
    by_cases h : a ≤ n <;> simp [wEl, mAnd, mOr, mBin, iLe, intF, fIsN, DL.isNon, mVar, mC, bnd, DL.ret, lift, optB, oD, inS, tru, h]
  | some b =>
    by_cases h : a ≤ n <;> by_cases h2 : n ≤ b <;> simp [wEl, mAnd, mOr, mBin, iLe, intF, fIsN, DL.isNon, mVar, mC, bnd, DL.ret, lift, optB, oD, inS, tru, h, h2]
theorem ret_any {m : MA} {n : Nat} {as ds : List D} {bs : List Bool} {st st' : List Ob} {sl : List Slot} (h : m ⟨slots n as, st⟩ = .ok ds ⟨sl, st'⟩) (hb : blsD ds = some bs) : fnM n (mRet (mUn fAny (mFz m))) as st = .ok (.bl (bs.any id)) st' := by
  simp [fnM, mRet, mUn, mFz, bnd, h, DL.ret, fAny, hb, lift, endR]
theorem within_eq {d : D} {l : List Sq} {n : Int} {st : List Ob} (hi : itD d = some (l.map eD)) (hl : l.length ≤ 1000) : f__law_within [d, .int n] st = .ok (.bl (wi l n)) st := by
  have c : mLc (mIt (mVar 0)) (gTp 2 (gsCons (gNm 2) (gsCons (gNm 3) gsNil))) mYes wEl [2, 3] ⟨[.imm d, .imm (.int n), .emp, .emp], st⟩ = .ok (l.map fun s => D.bl (inS s n)) ⟨[.imm d, .imm (.int n), .emp, .emp], st⟩ := by
    rw [lc_gen (F := fun d => some (.bl (inS (dec d) n))) (s := ⟨[.imm d, .imm (.int n), .emp, .emp], st⟩) (ds := l.map eD) (by simp [mIt, mVar, bnd, hi]) rfl rfl (fun x hx => by
      obtain ⟨s, _, rfl⟩ := List.mem_map.mp hx
      refine ⟨[(2, .int s.1), (3, oD s.2)], rfl, rfl, rfl, ?_⟩
      rw [dec_e]
      exact ⟨rfl, wEl_eq d n s st⟩) (by unfold few; simp; omega)]
    rw [fm_map (G := fun s => D.bl (inS s n)) l fun s _ => by rw [dec_e]]
  have := ret_any (n := 4) (as := [d, .int n]) c (bls_any l fun s => inS s n)
  rw [List.any_map] at this
  exact this
/-! ### _law_points -/
theorem binF_app {m m2 : MA} {ds es : List D} {s s' s'' : S} (h : m s = .ok ds s') (h2 : m2 s' = .ok es s'') (hf : few (ds.length + es.length)) : mBinF lAddL (mFz m) (mFz m2) s = .ok (ds ++ es) s'' := by
  simp only [mBinF, mFz, bnd, DL.ret, h, h2, lAddL, hf, if_true]
theorem one_int (i : Int) (s : S) : mLst (mCons (mC (.int i)) mNil) s = .ok [.int i] s := by simp [mLst, mCons, mC, mNil, bnd, DL.ret, few]
theorem lows_eq {d : D} {l : List Sq} {st : List Ob} (hi : itD d = some (l.map eD)) (hl : l.length ≤ 1000) : mLc (mIt (mVar 0)) (gTp 2 (gsCons (gNm 2) (gsCons (gNm 3) gsNil))) mYes (mVar 2) [2, 3] ⟨[.imm d, .emp, .emp, .emp, .emp], st⟩ = .ok (l.map fun s => D.int s.1) ⟨[.imm d, .emp, .emp, .emp, .emp], st⟩ := by
  rw [lc_gen (F := fun d => some (.int (dec d).1)) (s := ⟨[.imm d, .emp, .emp, .emp, .emp], st⟩) (ds := l.map eD) (by simp [mIt, mVar, bnd, hi]) rfl rfl (fun x hx => by
    obtain ⟨s, _, rfl⟩ := List.mem_map.mp hx
    refine ⟨[(2, .int s.1), (3, oD s.2)], rfl, rfl, rfl, ?_⟩
    rw [dec_e]
    exact ⟨rfl, rfl⟩) (by unfold few; simp; omega)]
  rw [fm_map (G := fun s => D.int s.1) l fun s _ => by rw [dec_e]]
def hT : MT := mBl (mBin fNotN (mVar 3) (mC .non))
theorem hT_eq (d : D) (s : Sq) (st : List Ob) : hT ⟨[.imm d, .emp, .imm (.int s.1), .imm (oD s.2), .emp], st⟩ = .ok s.2.isSome ⟨[.imm d, .emp, .imm (.int s.1), .imm (oD s.2), .emp], st⟩ := by
  obtain ⟨a, b⟩ := s
  cases b <;> simp [hT, mBl, mBin, fNotN, DL.isNon, mVar, mC, bnd, DL.ret, lift, optB, isBl, oD]
def hE : ME := mBin fAdd (mVar 3) (mC (.int 1))
theorem hE_eq (d : D) (a b : Int) (st : List Ob) : hE ⟨[.imm d, .emp, .imm (.int a), .imm (.int b), .emp], st⟩ = .ok (.int (b + 1)) ⟨[.imm d, .emp, .imm (.int a), .imm (.int b), .emp], st⟩ := by
  simp [hE, mBin, fAdd, mVar, mC, bnd, DL.ret, lift]
theorem fm_his : ∀ (l : List Sq), (l.map eD).filterMap (fun d => (dec d).2.map fun b => D.int (b + 1)) = (his l).map D.int
  | [] => rfl
  | (a, none) :: r => by
    rw [List.map_cons, List.filterMap_cons, dec_e]
    simp only [Option.map_none]
    rw [fm_his r]
    simp [his]
  | (a, some b) :: r => by
    rw [List.map_cons, List.filterMap_cons, dec_e]
    simp only [Option.map_some]
    rw [fm_his r]
    simp [his]
theorem highs_eq {d : D} {l : List Sq} {st : List Ob} (hi : itD d = some (l.map eD)) (hl : l.length ≤ 1000) : mLc (mIt (mVar 0)) (gTp 2 (gsCons (gNm 2) (gsCons (gNm 3) gsNil))) hT hE [2, 3] ⟨[.imm d, .emp, .emp, .emp, .emp], st⟩ = .ok ((his l).map D.int) ⟨[.imm d, .emp, .emp, .emp, .emp], st⟩ := by
  rw [lc_gen (F := fun d => (dec d).2.map fun b => D.int (b + 1)) (s := ⟨[.imm d, .emp, .emp, .emp, .emp], st⟩) (ds := l.map eD) (by simp [mIt, mVar, bnd, hi]) rfl rfl (fun x hx => by
    obtain ⟨s, _, rfl⟩ := List.mem_map.mp hx
    refine ⟨[(2, .int s.1), (3, oD s.2)], rfl, rfl, rfl, ?_⟩
    rw [dec_e]
    obtain ⟨a, b⟩ := s
    cases b with
    | none => exact hT_eq d (a, none) st
    | some b => exact ⟨hT_eq d (a, some b) st, hE_eq d a b st⟩) (by unfold few; simp; omega), fm_his]
theorem seams_eq {d : D} {l : List Sq} {st : List Ob} (hi : itD d = some (l.map eD)) (hl : l.length ≤ 1000) :
    mOwn 1 (mBinF lAddL (mFz (mBinF lAddL (mFz (mLst (mCons (mC (.int 0)) mNil))) (mFz (mLc (mIt (mVar 0)) (gTp 2 (gsCons (gNm 2) (gsCons (gNm 3) gsNil))) mYes (mVar 2) [2, 3])))) (mFz (mLc (mIt (mVar 0)) (gTp 2 (gsCons (gNm 2) (gsCons (gNm 3) gsNil))) hT hE [2, 3]))) ⟨[.imm d, .emp, .emp, .emp, .emp], st⟩ = .ok .nx ⟨[.imm d, .own ((seams l).map .int), .emp, .emp, .emp], st⟩ := by
  have hh : (his l).length ≤ l.length := List.length_filterMap_le _ _
  have e := own_app (i := 1) (binF_app (one_int 0 ⟨[.imm d, .emp, .emp, .emp, .emp], st⟩) (lows_eq hi hl) (by unfold few; simp; omega)) (highs_eq hi hl) (by unfold few; simp; omega)
  rw [e]
  have q : ([D.int 0] ++ l.map fun s => D.int s.1) ++ (his l).map D.int = (seams l).map .int := by
    simp [seams]
  rw [q]
  rfl
theorem points_gen {a : MS} {m : MA} {n : Nat} {as ds out : List D} {f : D → Option (List D)} {st : List Ob} {s1 s2 : S} (h1 : a ⟨slots n as, st⟩ = .ok .nx s1) (h2 : m s1 = .ok ds s2) (h3 : f (.lst ds) = some out) : fnM n (mSeq a (mRet (mFz (mUnF f (mFz m))))) as st = .ok (.lst out) s2.st := by
  unfold fnM
  rw [seq_nx h1]
  simp only [mRet, mFz, mUnF, bnd, DL.ret, h2, h3, endR]
theorem points_eq {d : D} {l : List Sq} {st : List Ob} (hi : itD d = some (l.map eD)) (hl : l.length ≤ 1000) (hp : (pts l).length < 64) : f__law_points [d] st = .ok (.lst ((pts l).map .int)) st := by
  have hh : (his l).length ≤ l.length := List.length_filterMap_le _ _
  have hs : (seams l).length ≤ 4000 := by unfold seams; simp; omega
  have c : mLc (mIt (mVar 1)) (gNm 4) mYes (mUn fInt (mLook 4)) [4] ⟨[.imm d, .own ((seams l).map .int), .emp, .emp, .emp], st⟩ = .ok ((seams l).map .int) ⟨[.imm d, .imm (.lst ((seams l).map .int)), .emp, .emp, .emp], st⟩ := by
    have := lc_map (i := 4) (it := mIt (mVar 1)) (m := mUn fInt (mLook 4)) (f := id) (s0 := ⟨[.imm d, .own ((seams l).map .int), .emp, .emp, .emp], st⟩) (s := ⟨[.imm d, .imm (.lst ((seams l).map .int)), .emp, .emp, .emp], st⟩) (ds := (seams l).map .int) (by simp [mIt, mVar, bnd, itD, S.put]) rfl rfl (fun x hx => by
      obtain ⟨i, _, rfl⟩ := List.mem_map.mp hx
      rfl) (by unfold few; simp; omega)
    rw [List.map_id] at this
    exact this
  have f : fSrtU (.lst ((seams l).map .int)) = some ((pts l).map .int) := by
    unfold fSrtU
    dsimp only
    rw [ints_q]
    dsimp only
    rw [if_pos ⟨hs, hp⟩]
    rfl
  exact points_gen (n := 5) (as := [d]) (seams_eq hi hl) c f
end SP

namespace SP
open PySem PySem.Spec L2 DL LC
def tD (p : Pt) : D := .tup [.int p.1, oD p.2.1, .bl p.2.2]
theorem pds_some {f : D → Option PyData} : ∀ {ds : List D}, (∀ d ∈ ds, (f d).isSome = true) → (pds f ds).isSome = true
  | [], _ => rfl
  | d :: ds, h => by
    have h1 := h d List.mem_cons_self
    have h2 := pds_some (ds := ds) fun x hx => h x (List.mem_cons_of_mem _ hx)
    unfold pds
    cases e : f d with
    | none => rw [e] at h1; cases h1
    | some p =>
      cases e2 : pds f ds with
      | none => rw [e2] at h2; cases h2
      | some q => rfl
theorem pd_o (n : Nat) (o : Option Int) : (pd n (oD o)).isSome = true := by cases o <;> cases n <;> rfl
theorem pd_t (n : Nat) (p : Pt) : (pd (n + 1) (tD p)).isSome = true := by
  unfold tD pd
  rw [Option.isSome_map]
  refine pds_some fun d hd => ?_
  rcases List.mem_cons.mp hd with z | hd
  · subst z; cases n <;> rfl
  · rcases List.mem_cons.mp hd with z | hd
    · subst z; exact pd_o _ _
    · rw [List.mem_singleton.mp hd]; cases n <;> rfl
theorem ne_nil (ps : List Pt) : fNe (.lst (ps.map tD)) (.lst []) = some (.bl (!ps.isEmpty)) := by
  have h1 : (pd 50 (.lst (ps.map tD))).isSome = true := by
    unfold pd
    rw [Option.isSome_map]
    exact pds_some fun d hd => by
      obtain ⟨p, _, rfl⟩ := List.mem_map.mp hd
      exact pd_t _ p
  have h2 : (pd 50 (.lst [])).isSome = true := rfl
  unfold fNe
  rw [if_pos ⟨h1, h2⟩]
  cases ps <;> rfl
theorem eq_bl (a b : Bool) : fEq (.bl a) (.bl b) = some (.bl (decide (a = b))) := by
  cases a <;> cases b <;> rfl
/-! ### _law_joined -/
def jB : MS := mIfS (mAndT (mBl (mNeV 1 (mFz (mLst mNil)))) (mBl (mBin fEq (mBin ixD (mIxN 1 (mUn iNeg (mC (.int 1)))) (mC (.int 2))) (mVar 4)))) (mSetIx 1 (mUn iNeg (mC (.int 1))) (mTup (mCons (mBin ixD (mIxN 1 (mUn iNeg (mC (.int 1)))) (mC (.int 0))) (mCons (mVar 3) (mCons (mVar 4) mNil))))) (mExpr (mApp 1 (mTup (mCons (mVar 2) (mCons (mVar 3) (mCons (mVar 4) mNil))))))
abbrev jS (p : Slot) (found : List D) (x : Pt) (st : List Ob) : S := ⟨[p, .own found, .imm (.int x.1), .imm (oD x.2.1), .imm (.bl x.2.2)], st⟩
theorem jB_nil {p : Slot} {x : Pt} {st : List Ob} : jB (jS p [] x st) = .ok .nx (jS p [tD x] x st) := by
  have e : fNe (.lst []) (.lst []) = some (.bl false) := ne_nil []
  simp [jB, jS, mIfS, mAndT, mBl, mNeV, mFz, mLst, mNil, bnd, DL.ret, cur, few, lift, e, optB, isBl, mExpr, mApp, mTup, mCons, mVar, S.put, tD]
theorem at_last (pre : List D) (l : D) : atI (pre ++ [l]) (-1) = some l := by
  unfold atI ixN
  rw [if_neg (by omega), if_pos (by simp; omega)]
  have : ((-1 : Int) + ((pre ++ [l]).length : Nat)).toNat = pre.length := by simp; omega
  show (pre ++ [l])[((-1 : Int) + ((pre ++ [l]).length : Nat)).toNat]? = some l
  rw [this]
  simp
theorem ix_last (pre : List D) (l : D) : ixN (pre ++ [l]).length (-1) = some pre.length := by
  unfold ixN
  rw [if_neg (by omega), if_pos (by simp; omega)]
  have : ((-1 : Int) + ((pre ++ [l]).length : Nat)).toNat = pre.length := by simp; omega
  rw [this]
theorem set_last (pre : List D) (l v : D) : (pre ++ [l]).set pre.length v = pre ++ [v] := by simp
theorem jB_yes {p : Slot} {pre : List D} {l x : Pt} {st : List Ob} (hne : fNe (.lst (pre ++ [tD l])) (.lst []) = some (.bl true)) (he : l.2.2 = x.2.2) : jB (jS p (pre ++ [tD l]) x st) = .ok .nx (jS p (pre ++ [tD (l.1, x.2.1, x.2.2)]) x st) := by
  have a1 := at_last pre (tD l)
  have a2 := ix_last pre (tD l)
  have i2 : ixD (tD l) (.int 2) = some (.bl l.2.2) := rfl
  have i0 : ixD (tD l) (.int 0) = some (.int l.1) := rfl
  have ix : ixD (.lst (pre ++ [tD l])) (.int (-1)) = some (tD l) := a1
  have e := eq_bl l.2.2 x.2.2
  rw [decide_eq_true he] at e
  have ng : iNeg (.int 1) = some (.int (-1)) := rfl
  simp only [jB, jS, mIfS, mAndT, mBl, mNeV, mFz, mLst, mNil, bnd, DL.ret, cur, few, lift, hne, optB, isBl, mIxN, mIxV, mUn, mC, mBin, ng, ix, i2, i0, e, mVar, mSetIx, mTup, mCons, a2, S.put, List.length_nil, Nat.zero_le, if_true, List.getElem?_cons_zero, List.getElem?_cons_succ]
  have a3 : ixN (pre.length + 1) (-1) = some pre.length := by simpa using a2
  simp [ix, i2, i0, e, a3, set_last, tD, few]
theorem jB_no {p : Slot} {pre : List D} {l x : Pt} {st : List Ob} (hl : pre.length < 1000) (hne : fNe (.lst (pre ++ [tD l])) (.lst []) = some (.bl true)) (he : ¬ l.2.2 = x.2.2) : jB (jS p (pre ++ [tD l]) x st) = .ok .nx (jS p ((pre ++ [tD l]) ++ [tD x]) x st) := by
  have i2 : ixD (tD l) (.int 2) = some (.bl l.2.2) := rfl
  have ix : ixD (.lst (pre ++ [tD l])) (.int (-1)) = some (tD l) := at_last pre (tD l)
  have e := eq_bl l.2.2 x.2.2
  rw [decide_eq_false he] at e
  have ng : iNeg (.int 1) = some (.int (-1)) := rfl
  have fw : (pre ++ [tD l]).length + 1 ≤ 1000000 := by simp; omega
  simp only [jB, jS, mIfS, mAndT, mBl, mNeV, mFz, mLst, mNil, bnd, DL.ret, cur, few, lift, hne, optB, isBl, mIxN, mIxV, mUn, mC, mBin, ng, ix, i2, e, mVar, mExpr, mApp, mTup, mCons, S.put, List.length_nil, Nat.zero_le, if_true, List.getElem?_cons_zero, List.getElem?_cons_succ]
  have le : (pre ++ [tD l]).length = pre.length + 1 := by simp
  have f2 : pre.length + 1 + 1 ≤ 1000000 := by omega
  simp [ix, i2, e, tD, few, mApp, mVar, bnd, DL.ret, S.put, f2, cur]
theorem jB_eq {p : Slot} {found : List Pt} {x : Pt} {st : List Ob} (hl : found.length < 1000) : jB (jS p (found.map tD) x st) = .ok .nx (jS p ((jstep found x).map tD) x st) := by
  rcases List.eq_nil_or_concat found with e | ⟨pre, l, e⟩
  · subst e
    exact jB_nil
  · rw [List.concat_eq_append] at e
    subst e
    have hne := ne_nil (pre ++ [l])
    have q : (!(pre ++ [l]).isEmpty) = true := by simp
    rw [q, List.map_append, List.map_singleton] at hne
    obtain ⟨a, b, m⟩ := l
    rw [jstep_at, List.map_append, List.map_singleton]
    by_cases he : m = x.2.2
    · rw [if_pos he]
      have := jB_yes (p := p) (st := st) hne (show (a, b, m).2.2 = x.2.2 from he)
      rw [this]
      simp
    · rw [if_neg he]
      have := jB_no (p := p) (st := st) (by simp at hl ⊢; omega) hne (show ¬ (a, b, m).2.2 = x.2.2 from he)
      rw [this]
      simp
theorem jstep_len (found : List Pt) (x : Pt) : (jstep found x).length ≤ found.length + 1 := by
  unfold jstep
  split
  · split
    · simp
    · simp
  · simp
theorem fo_step {g : MG} {b : MS} {d : D} {ds : List D} {s s2 : S} {l : List (Nat × D)} (h1 : g d = some l) (h2 : b (s.puts l) = .ok .nx s2) : fo g b (d :: ds) s = fo g b ds s2 := by
  rw [fo]
  simp only [h1, h2]
theorem j_loop {p : Slot} {st : List Ob} : ∀ (ps found : List Pt) (a b c : Slot), found.length + ps.length < 1000 → ∃ a' b' c', fo (gTp 3 (gsCons (gNm 2) (gsCons (gNm 3) (gsCons (gNm 4) gsNil)))) jB (ps.map tD) ⟨[p, .own (found.map tD), a, b, c], st⟩ = .ok .nx ⟨[p, .own ((ps.foldl jstep found).map tD), a', b', c'], st⟩
  | [], found, a, b, c, _ => ⟨a, b, c, rfl⟩
  | x :: r, found, a, b, c, h => by
    have hs := jstep_len found x
    obtain ⟨a', b', c', e⟩ := j_loop r (jstep found x) (.imm (.int x.1)) (.imm (oD x.2.1)) (.imm (.bl x.2.2)) (by simp at h; omega)
    refine ⟨a', b', c', ?_⟩
    rw [List.map_cons, fo_step (l := [(2, .int x.1), (3, oD x.2.1), (4, .bl x.2.2)]) (s2 := jS p ((jstep found x).map tD) x st) rfl (jB_eq (by simp at h; omega))]
    exact e
theorem for_of {it : MA} {g : MG} {b : MS} {ds : List D} {s s1 s2 : S} (h1 : it s = .ok ds s1) (h2 : fo g b ds s1 = .ok .nx s2) : mFor it g b s = .ok .nx s2 := by
  unfold mFor
  rw [bnd_of h1]
  exact h2
theorem joined_gen {a f : MS} {n : Nat} {as ds : List D} {st : List Ob} {s1 s2 : S} (h1 : a ⟨slots n as, st⟩ = .ok .nx s1) (h2 : f s1 = .ok .nx s2) (h3 : s2.sl[1]? = some (.own ds)) : fnM n (mSeq a (mSeq f (mRet (mVar 1)))) as st = .ok (.lst ds) s2.st := by
  unfold fnM
  rw [seq_nx h1, seq_nx h2]
  simp [mRet, mVar, bnd, h3, DL.ret, S.put, endR]
theorem joined_eq {d : D} {ps : List Pt} {st : List Ob} (hi : itD d = some (ps.map tD)) (hl : ps.length < 1000) : f__law_joined [d] st = .ok (.lst ((ps.foldl jstep []).map tD)) st := by
  obtain ⟨a', b', c', e⟩ := j_loop (p := .imm d) (st := st) ps [] .emp .emp .emp (by simpa using hl)
  exact joined_gen (n := 5) (as := [d]) (s1 := ⟨[.imm d, .own [], .emp, .emp, .emp], st⟩) (by simp [mOwn, mLst, mNil, bnd, DL.ret, few, S.put, slots]) (for_of (s1 := ⟨[.imm d, .own (([] : List Pt).map tD), .emp, .emp, .emp], st⟩) (by simp [mIt, mVar, bnd, hi]) e) rfl
end SP

namespace SP
open PySem PySem.Spec L2 DL LC
/-! ### _law_highs, _law_spread -/
def hiD : List Int → List D
  | [] => [.non]
  | [_] => [.non]
  | _ :: y :: r => .int (y - 1) :: hiD (y :: r)
theorem hiD_eq : ∀ p : List Int, p ≠ [] → hiD p = (p.drop 1).map (fun x => D.int (x - 1)) ++ [.non]
  | [], h => (h rfl).elim
  | [x], _ => rfl
  | x :: y :: r, _ => by
    unfold hiD
    rw [hiD_eq (y :: r) (by simp)]
    simp
theorem zip3_eq : ∀ (p : List Int) (bs : List Bool), p.length = bs.length → zip3D (p.map .int) (hiD p) (bs.map .bl) = (prt (p.zip bs)).map tD
  | [], bs, _ => by simp [zip3D, prt]
  | [x], [b], _ => by simp [zip3D, prt, hiD, nx, tD, oD]
  | x :: y :: r, b :: c :: bs, h => by
    have ih := zip3_eq (y :: r) (c :: bs) (by simpa using h)
    have e : zip3D ((x :: y :: r).map .int) (hiD (x :: y :: r)) ((b :: c :: bs).map .bl) = .tup [.int x, .int (y - 1), .bl b] :: zip3D ((y :: r).map .int) (hiD (y :: r)) ((c :: bs).map .bl) := by
      simp only [List.map_cons, hiD, zip3D]
    rw [e, ih]
    simp [prt, nx, tD, oD]
  | [x], [], h => by simp at h
  | [x], _ :: _ :: _, h => by simp at h
  | _ :: _ :: _, [], h => by simp at h
  | _ :: _ :: _, [_], h => by simp at h
theorem cut1 (p : List Int) : cutD (.lst (p.map .int)) (some 1) none = some (.lst ((p.drop 1).map .int)) := by
  cases p with
  | nil => rfl
  | cons x r =>
    have s1 : HT.sIx (r.length + 1) 0 (some 1) = 1 := by simp [HT.sIx]
    have s2 : HT.sIx (r.length + 1) (r.length + 1) none = r.length + 1 := by simp [HT.sIx]
    simp [cutD, cutL, s1, s2]
    exact List.take_of_length_le (by simp)
theorem highsF_eq {p : List Int} {st : List Ob} (hp : p ≠ []) (hl : p.length ≤ 1000) : f__law_highs [.lst (p.map .int)] st = .ok (.lst (hiD p)) st := by
  have c := lc_map (i := 1) (it := mIt (mSlN 0 (mPart (mC (.int 1))) mNoP)) (m := mBin iSub (mVar 1) (mC (.int 1))) (f := fun d => match d with | .int q => .int (q - 1) | d => d) (s0 := ⟨[.imm (.lst (p.map .int)), .emp], st⟩) (s := ⟨[.imm (.lst (p.map .int)), .emp], st⟩) (ds := (p.drop 1).map .int) (by simp [mIt, mSlN, mPart, mNoP, mC, bnd, DL.ret, cur, lift, cut1, itD]) rfl rfl (fun d hd => by
    obtain ⟨x, _, rfl⟩ := List.mem_map.mp hd
    simp [mBin, iSub, intF, mVar, mC, bnd, DL.ret, lift, S.put]) (by unfold few; simp; omega)
  rw [List.map_map] at c
  have e := binF_app c (one_non _) (by unfold few; simp; omega)
  rw [hiD_eq p hp]
  exact ret_fz (n := 2) e
def sE : ME := mTup (mCons (mVar 3) (mCons (mVar 4) (mCons (mVar 5) mNil)))
theorem sE_eq {a b c : Slot} {x : Pt} {st : List Ob} : sE ⟨[a, b, c, .imm (.int x.1), .imm (oD x.2.1), .imm (.bl x.2.2)], st⟩ = .ok (tD x) ⟨[a, b, c, .imm (.int x.1), .imm (oD x.2.1), .imm (.bl x.2.2)], st⟩ := by
  simp [sE, mTup, mCons, mNil, mVar, bnd, DL.ret, few, tD]
def sE2 : ME := mTup (mCons (mVar 3) (mCons (mVar 4) mNil))
theorem sE2_eq {a b c : Slot} {x : Pt} {st : List Ob} : sE2 ⟨[a, b, c, .imm (.int x.1), .imm (oD x.2.1), .imm (.bl x.2.2)], st⟩ = .ok (eD (x.1, x.2.1)) ⟨[a, b, c, .imm (.int x.1), .imm (oD x.2.1), .imm (.bl x.2.2)], st⟩ := by
  simp [sE2, mTup, mCons, mNil, mVar, bnd, DL.ret, few, eD]
def sT : MT := mTru (mLook 5)
theorem sT_eq {a b c : Slot} {x : Pt} {st : List Ob} : sT ⟨[a, b, c, .imm (.int x.1), .imm (oD x.2.1), .imm (.bl x.2.2)], st⟩ = .ok x.2.2 ⟨[a, b, c, .imm (.int x.1), .imm (oD x.2.1), .imm (.bl x.2.2)], st⟩ := by
  simp [sT, mTru, mLook, cur, bnd, DL.ret, optB, tru]
def decP : D → Pt
  | .tup [.int a, .int b, .bl c] => (a, some b, c)
  | .tup [.int a, _, .bl c] => (a, none, c)
  | _ => (0, none, false)
theorem dec_t (x : Pt) : decP (tD x) = x := by
  obtain ⟨a, b, c⟩ := x
  cases b <;> rfl
abbrev g3 : MG := gTp 3 (gsCons (gNm 3) (gsCons (gNm 4) (gsCons (gNm 5) gsNil)))
theorem sp_parts {it : MA} {a b : D} {ps : List Pt} {st : List Ob} (hi : it ⟨[.imm a, .imm b, .emp, .emp, .emp, .emp], st⟩ = .ok (ps.map tD) ⟨[.imm a, .imm b, .emp, .emp, .emp, .emp], st⟩) (hl : ps.length ≤ 1000) : mLc it g3 mYes sE [3, 4, 5] ⟨[.imm a, .imm b, .emp, .emp, .emp, .emp], st⟩ = .ok (ps.map tD) ⟨[.imm a, .imm b, .emp, .emp, .emp, .emp], st⟩ := by
  rw [lc_gen (F := fun d => some (tD (decP d))) hi rfl rfl (fun d hd => by
    obtain ⟨x, _, rfl⟩ := List.mem_map.mp hd
    refine ⟨[(3, .int x.1), (4, oD x.2.1), (5, .bl x.2.2)], rfl, rfl, rfl, ?_⟩
    rw [dec_t]
    exact ⟨rfl, sE_eq⟩) (by unfold few; simp; omega)]
  have q : ∀ l : List Pt, (l.map tD).filterMap (fun d => some (tD (decP d))) = l.map tD := by
    intro l
    induction l with
    | nil => rfl
    | cons x r ih => rw [List.map_cons, List.filterMap_cons, dec_t, ih]
  rw [q]
theorem sp_take {a b : D} {ps : List Pt} {st : List Ob} (hl : ps.length ≤ 1000) : mLc (mIt (mVar 2)) g3 sT sE2 [3, 4, 5] ⟨[.imm a, .imm b, .imm (.lst (ps.map tD)), .emp, .emp, .emp], st⟩ = .ok ((fl ps).map eD) ⟨[.imm a, .imm b, .imm (.lst (ps.map tD)), .emp, .emp, .emp], st⟩ := by
  rw [lc_gen (F := fun d => if (decP d).2.2 then some (eD ((decP d).1, (decP d).2.1)) else none) (s := ⟨[.imm a, .imm b, .imm (.lst (ps.map tD)), .emp, .emp, .emp], st⟩) (ds := ps.map tD) (by simp [mIt, mVar, bnd, itD]) rfl rfl (fun d hd => by
    obtain ⟨x, _, rfl⟩ := List.mem_map.mp hd
    refine ⟨[(3, .int x.1), (4, oD x.2.1), (5, .bl x.2.2)], rfl, rfl, rfl, ?_⟩
    rw [dec_t]
    have ht := sT_eq (a := .imm a) (b := .imm b) (c := .imm (.lst (ps.map tD))) (x := x) (st := st)
    cases h : x.2.2 with
    | true => rw [h] at ht; exact ⟨ht, by have := sE2_eq (a := .imm a) (b := .imm b) (c := .imm (.lst (ps.map tD))) (x := x) (st := st); rw [h] at this; exact this⟩
    | false => rw [h] at ht; exact ht) (by unfold few; simp; omega)]
  have q : ∀ l : List Pt, (l.map tD).filterMap (fun d => if (decP d).2.2 then some (eD ((decP d).1, (decP d).2.1)) else none) = (fl l).map eD := by
    intro l
    induction l with
    | nil => rfl
    | cons x r ih =>
      rw [List.map_cons, List.filterMap_cons, dec_t]
      cases h : x.2.2 with
      | true => simp only [if_true]; rw [ih]; simp [fl, h]
      | false => simp only [Bool.false_eq_true, if_false]; rw [ih]; simp [fl, h]
  rw [q]
theorem zip_it {fh : Fn} {p : List Int} {bs : List Bool} {st : List Ob} (hh : fh [.lst (p.map .int)] st = .ok (.lst (hiD p)) st) (hb : p.length = bs.length) : mZip3 (mCons (mVar 0) (mCons (mCall fh (mCons (mVar 0) mNil)) (mCons (mVar 1) mNil))) ⟨[.imm (.lst (p.map .int)), .imm (.lst (bs.map .bl)), .emp, .emp, .emp, .emp], st⟩ = .ok ((prt (p.zip bs)).map tD) ⟨[.imm (.lst (p.map .int)), .imm (.lst (bs.map .bl)), .emp, .emp, .emp, .emp], st⟩ := by
  rw [← zip3_eq p bs hb]
  simp [mZip3, mCons, mCall, mVar, mNil, bnd, DL.ret, hh, outR, lsD, isTup, itD]
theorem spread_gen {fj : Fn} {m1 m2 : MA} {a b : D} {ds out : List D} {st : List Ob} {s2 : S} {j : D} (h1 : m1 ⟨[.imm a, .imm b, .emp, .emp, .emp, .emp], st⟩ = .ok ds ⟨[.imm a, .imm b, .emp, .emp, .emp, .emp], st⟩) (hj : fj [.lst ds] st = .ok j st) (h2 : m2 ⟨[.imm a, .imm b, .imm j, .emp, .emp, .emp], st⟩ = .ok out s2) :
    fnM 6 (mSeq (mSet 2 (mCall fj (mCons (mFz m1) mNil))) (mRet (mUn fTuple (mFz m2)))) [a, b] st = .ok (.tup out) s2.st := by
  refine paired_gen (n := 6) (as := [a, b]) (s1 := ⟨[.imm a, .imm b, .imm j, .emp, .emp, .emp], st⟩) ?_ h2
  show mSet 2 _ ⟨[.imm a, .imm b, .emp, .emp, .emp, .emp], st⟩ = _
  simp [mSet, mCall, mCons, mNil, mFz, bnd, DL.ret, h1, hj, outR, S.put]
theorem jn_len : ∀ (ps found : List Pt), (ps.foldl jstep found).length ≤ found.length + ps.length
  | [], found => by simp
  | x :: r, found => by
    have h1 := jn_len r (jstep found x)
    have h2 := jstep_len found x
    simp only [List.foldl_cons, List.length_cons]
    omega
theorem prt_len : ∀ ps : List (Int × Bool), (prt ps).length = ps.length
  | [] => rfl
  | (p, b) :: r => by simp [prt, prt_len r]
theorem spread_fn {p : List Int} {bs : List Bool} {st : List Ob} (hp : p ≠ []) (hb : p.length = bs.length) (hl : p.length < 1000) : f__law_spread [.lst (p.map .int), .lst (bs.map .bl)] st = .ok (.tup ((pr (chg false (p.zip bs))).map eD)) st := by
  have lz : (p.zip bs).length = p.length := by simp [hb]
  have ln : (prt (p.zip bs)).length < 1000 := by rw [prt_len, lz]; exact hl
  have h1 := sp_parts (zip_it (st := st) (highsF_eq hp (by omega)) hb) (by omega)
  have hj := joined_eq (st := st) (show itD (.lst ((prt (p.zip bs)).map tD)) = some ((prt (p.zip bs)).map tD) from rfl) ln
  have jl := jn_len (prt (p.zip bs)) []
  have h2 := sp_take (a := .lst (p.map .int)) (b := .lst (bs.map .bl)) (ps := (prt (p.zip bs)).foldl jstep []) (st := st) (by simp at jl; omega)
  rw [spread_eq] at h2
  exact spread_gen h1 hj h2
end SP

namespace SP
open PySem PySem.Spec L2 DL LC
theorem pts_ne (l : List Sq) : pts l ≠ [] := fun h => by
  have : (0 : Int) ∈ pts l := pts_mem.mpr (.inl rfl)
  rw [h] at this
  cases this
theorem zip_map_self (p : List Int) (f : Int → Bool) : p.zip (p.map f) = p.map fun x => (x, f x) := by
  induction p with
  | nil => rfl
  | cons x r ih => simp [ih]
theorem spread_at {l : List Sq} {f : Int → Bool} {st : List Ob} (hp : (pts l).length < 64) : f__law_spread [.lst ((pts l).map .int), .lst (((pts l).map f).map .bl)] st = .ok (.tup ((pr (lawOf l f)).map eD)) st := by
  have := spread_fn (st := st) (p := pts l) (bs := (pts l).map f) (pts_ne l) (by simp) (by omega)
  rw [zip_map_self] at this
  exact this
/-! ### _law_united -/
theorem uni_gen {fp fs : Fn} {m : MA} {d p R : D} {bs : List D} {st : List Ob} {s2 : S} (h1 : fp [d] st = .ok p st) (h2 : m ⟨[.imm d, .imm p, .emp], st⟩ = .ok bs s2) (hs : s2 = ⟨[.imm d, .imm p, .emp], st⟩) (h3 : fs [p, .lst bs] st = .ok R st) :
    fnM 3 (mSeq (mSet 1 (mCall fp (mCons (mVar 0) mNil))) (mRet (mCall fs (mCons (mVar 1) (mCons (mFz m) mNil))))) [d] st = .ok R st := by
  subst hs
  show endR (mSeq _ _ ⟨[.imm d, .emp, .emp], st⟩) = _
  have a : mSet 1 (mCall fp (mCons (mVar 0) mNil)) ⟨[.imm d, .emp, .emp], st⟩ = .ok .nx ⟨[.imm d, .imm p, .emp], st⟩ := by
    simp [mSet, mCall, mCons, mNil, mVar, bnd, DL.ret, h1, outR, S.put]
  rw [seq_nx a]
  simp [mRet, mCall, mCons, mNil, mVar, mFz, bnd, DL.ret, h2, h3, outR, endR]
theorem bl_list {fw : Fn} {d : D} {p : List Int} {f : Int → Bool} {st : List Ob} (h : ∀ x ∈ p, fw [d, .int x] st = .ok (.bl (f x)) st) (hl : p.length ≤ 1000) : mLc (mIt (mVar 1)) (gNm 2) mYes (mCall fw (mCons (mVar 0) (mCons (mVar 2) mNil))) [2] ⟨[.imm d, .imm (.lst (p.map .int)), .emp], st⟩ = .ok ((p.map f).map .bl) ⟨[.imm d, .imm (.lst (p.map .int)), .emp], st⟩ := by
  rw [lc_map (i := 2) (f := fun z => match z with | .int x => .bl (f x) | z => z) (s := ⟨[.imm d, .imm (.lst (p.map .int)), .emp], st⟩) (ds := p.map .int) (by simp [mIt, mVar, bnd, itD]) rfl rfl (fun z hz => by
    obtain ⟨x, hx, rfl⟩ := List.mem_map.mp hz
    simp [mCall, mCons, mNil, mVar, bnd, DL.ret, S.put, h x hx, outR]) (by unfold few; simp; omega)]
  rw [List.map_map, List.map_map]
  rfl
theorem united_eq {d : D} {l : List Sq} {st : List Ob} (hi : itD d = some (l.map eD)) (hl : l.length ≤ 1000) (hp : (pts l).length < 64) : f__law_united [d] st = .ok (.tup ((pr (lawOf l (wi l))).map eD)) st :=
  uni_gen (points_eq hi hl hp) (bl_list (fun x _ => within_eq hi hl) (by omega)) rfl (spread_at hp)
/-! ### _law_mixed_up -/
def mD (p : Bool × Bool) : D := .tup [.bl p.1, .bl p.2]
def decM : D → Bool × Bool
  | .tup [.bl a, .bl b] => (a, b)
  | _ => (false, false)
abbrev xS (a b w p : D) (m : Slot) (st : List Ob) : S := ⟨[.imm a, .imm b, .imm w, .imm p, m, .emp, .emp, .emp], st⟩
def xEl (fw : Fn) : ME := mTup (mCons (mCall fw (mCons (mVar 0) (mCons (mVar 5) mNil))) (mCons (mCall fw (mCons (mVar 1) (mCons (mVar 5) mNil))) mNil))
theorem x_marks {fw : Fn} {a b w : D} {p : List Int} {f g : Int → Bool} {st : List Ob} (h1 : ∀ x ∈ p, fw [a, .int x] st = .ok (.bl (f x)) st) (h2 : ∀ x ∈ p, fw [b, .int x] st = .ok (.bl (g x)) st) (hl : p.length ≤ 1000) :
    mLc (mIt (mVar 3)) (gNm 5) mYes (xEl fw) [5] (xS a b w (.lst (p.map .int)) .emp st) = .ok ((p.map fun x => (f x, g x)).map mD) (xS a b w (.lst (p.map .int)) .emp st) := by
  rw [lc_map (i := 5) (f := fun z => match z with | .int x => mD (f x, g x) | z => z) (s := xS a b w (.lst (p.map .int)) .emp st) (ds := p.map .int) (by simp [mIt, mVar, bnd, itD]) rfl rfl (fun z hz => by
    obtain ⟨x, hx, rfl⟩ := List.mem_map.mp hz
    simp [xEl, mTup, mCall, mCons, mNil, mVar, bnd, DL.ret, S.put, h1 x hx, h2 x hx, outR, few, mD]) (by unfold few; simp; omega)]
  rw [List.map_map, List.map_map]
  rfl
theorem x_out {a b w p : D} {el : ME} {k : Bool → Bool → Bool} {ms : List (Bool × Bool)} {st : List Ob} (hel : ∀ (u v : Bool), el ⟨[.imm a, .imm b, .imm w, .imm p, .imm (.lst (ms.map mD)), .emp, .imm (.bl u), .imm (.bl v)], st⟩ = .ok (.bl (k u v)) ⟨[.imm a, .imm b, .imm w, .imm p, .imm (.lst (ms.map mD)), .emp, .imm (.bl u), .imm (.bl v)], st⟩) (hl : ms.length ≤ 1000) :
    mLc (mIt (mVar 4)) (gTp 2 (gsCons (gNm 6) (gsCons (gNm 7) gsNil))) mYes el [6, 7] (xS a b w p (.own (ms.map mD)) st) = .ok ((ms.map fun q => k q.1 q.2).map .bl) (xS a b w p (.imm (.lst (ms.map mD))) st) := by
  rw [lc_gen (F := fun d => some (.bl (k (decM d).1 (decM d).2))) (s := xS a b w p (.imm (.lst (ms.map mD))) st) (ds := ms.map mD) (by simp [mIt, mVar, bnd, itD, S.put]) rfl rfl (fun d hd => by
    obtain ⟨q, _, rfl⟩ := List.mem_map.mp hd
    exact ⟨[(6, .bl q.1), (7, .bl q.2)], rfl, rfl, rfl, rfl, hel q.1 q.2⟩) (by unfold few; simp; omega)]
  have q : ∀ l : List (Bool × Bool), (l.map mD).filterMap (fun d => some (.bl (k (decM d).1 (decM d).2))) = (l.map fun q => k q.1 q.2).map D.bl := by
    intro l
    induction l with
    | nil => rfl
    | cons x r ih => rw [List.map_cons, List.filterMap_cons]; simp only [List.map_cons]; rw [← ih]; rfl
  rw [q]
theorem mix_gen {fp fs : Fn} {M A0 A1 A2 : MA} {a b c p R : D} {w : Int} {bs out : List D} {st : List Ob} {sl : Slot} (hc : fAdd a b = some c) (h1 : fp [c] st = .ok p st) (h2 : M (xS a b (.int w) p .emp st) = .ok bs (xS a b (.int w) p .emp st))
    (h3 : (if w = 0 then A0 else if w = 1 then A1 else A2) (xS a b (.int w) p (.own bs) st) = .ok out (xS a b (.int w) p sl st)) (h4 : fs [p, .lst out] st = .ok R st) :
    fnM 8 (mSeq (mSet 3 (mCall fp (mCons (mBin fAdd (mVar 0) (mVar 1)) mNil))) (mSeq (mOwn 4 M) (mSeq (mIfS (mBl (mBin fEq (mVar 2) (mC (.int 0)))) (mRet (mCall fs (mCons (mVar 3) (mCons (mFz A0) mNil)))) mPass) (mSeq (mIfS (mBl (mBin fEq (mVar 2) (mC (.int 1)))) (mRet (mCall fs (mCons (mVar 3) (mCons (mFz A1) mNil)))) mPass) (mRet (mCall fs (mCons (mVar 3) (mCons (mFz A2) mNil)))))))) [a, b, .int w] st = .ok R st := by
  have a1 : mSet 3 (mCall fp (mCons (mBin fAdd (mVar 0) (mVar 1)) mNil)) ⟨[.imm a, .imm b, .imm (.int w), .emp, .emp, .emp, .emp, .emp], st⟩ = .ok .nx (xS a b (.int w) p .emp st) := by
    simp [mSet, mCall, mCons, mNil, mVar, mBin, bnd, DL.ret, lift, hc, h1, outR, S.put]
  have a2 : mOwn 4 M (xS a b (.int w) p .emp st) = .ok .nx (xS a b (.int w) p (.own bs) st) := by
    simp only [mOwn, bnd, h2, S.put]; rfl
  have rr : ∀ A : MA, A (xS a b (.int w) p (.own bs) st) = .ok out (xS a b (.int w) p sl st) → mRet (mCall fs (mCons (mVar 3) (mCons (mFz A) mNil))) (xS a b (.int w) p (.own bs) st) = .ok (.rt R) (xS a b (.int w) p sl st) := fun A hA => by
    have v3 : mVar 3 (xS a b (.int w) p (.own bs) st) = .ok p (xS a b (.int w) p (.own bs) st) := rfl
    simp only [mRet, mCall, mCons, mNil, mFz, bnd, DL.ret, v3, hA, h4, outR]
  have q0 : mBl (mBin fEq (mVar 2) (mC (.int 0))) (xS a b (.int w) p (.own bs) st) = .ok (decide (w = 0)) (xS a b (.int w) p (.own bs) st) := by
    simp [mBl, mBin, mVar, mC, bnd, DL.ret, lift, eq_int, optB, isBl]
  have q1 : mBl (mBin fEq (mVar 2) (mC (.int 1))) (xS a b (.int w) p (.own bs) st) = .ok (decide (w = 1)) (xS a b (.int w) p (.own bs) st) := by
    simp [mBl, mBin, mVar, mC, bnd, DL.ret, lift, eq_int, optB, isBl]
  show endR (mSeq _ _ ⟨[.imm a, .imm b, .imm (.int w), .emp, .emp, .emp, .emp, .emp], st⟩) = _
  rw [seq_nx a1, seq_nx a2]
  by_cases c0 : w = 0
  · rw [if_pos c0] at h3
    have i0 : ∀ B : MS, mIfS (mBl (mBin fEq (mVar 2) (mC (.int 0)))) (mRet (mCall fs (mCons (mVar 3) (mCons (mFz A0) mNil)))) B (xS a b (.int w) p (.own bs) st) = .ok (.rt R) (xS a b (.int w) p sl st) := fun B => by
      unfold mIfS
      rw [bnd_of q0, decide_eq_true c0]
      exact rr A0 h3
    rw [seq_rt (i0 _)]
    rfl
  · rw [if_neg c0] at h3
    have i0 : ∀ B : MS, mIfS (mBl (mBin fEq (mVar 2) (mC (.int 0)))) B mPass (xS a b (.int w) p (.own bs) st) = .ok .nx (xS a b (.int w) p (.own bs) st) := fun B => by
      unfold mIfS
      rw [bnd_of q0, decide_eq_false c0]
      rfl
    rw [seq_nx (i0 _)]
    by_cases c1 : w = 1
    · rw [if_pos c1] at h3
      have i1 : ∀ B : MS, mIfS (mBl (mBin fEq (mVar 2) (mC (.int 1)))) (mRet (mCall fs (mCons (mVar 3) (mCons (mFz A1) mNil)))) B (xS a b (.int w) p (.own bs) st) = .ok (.rt R) (xS a b (.int w) p sl st) := fun B => by
        unfold mIfS
        rw [bnd_of q1, decide_eq_true c1]
        exact rr A1 h3
      rw [seq_rt (i1 _)]
      rfl
    · rw [if_neg c1] at h3
      have i1 : ∀ B : MS, mIfS (mBl (mBin fEq (mVar 2) (mC (.int 1)))) B mPass (xS a b (.int w) p (.own bs) st) = .ok .nx (xS a b (.int w) p (.own bs) st) := fun B => by
        unfold mIfS
        rw [bnd_of q1, decide_eq_false c1]
        rfl
      rw [seq_nx (i1 _), rr A2 h3]
      rfl
/-- the ways of mixing -/
def kw (w : Int) (u v : Bool) : Bool := if w = 0 then u || v else if w = 1 then u && v else if w = 2 then u && !v else xor u v
def e2 : ME := mIf (mBl (mBin fEq (mVar 2) (mC (.int 2)))) (mAnd (mVar 6) (mNot (mVar 7))) (mBin fNe (mVar 6) (mVar 7))
theorem el_eq {a b p m : D} {w : Int} {st : List Ob} (u v : Bool) : (if w = 0 then mOr (mVar 6) (mVar 7) else if w = 1 then mAnd (mVar 6) (mVar 7) else e2) ⟨[.imm a, .imm b, .imm (.int w), .imm p, .imm m, .emp, .imm (.bl u), .imm (.bl v)], st⟩ = .ok (.bl (kw w u v)) ⟨[.imm a, .imm b, .imm (.int w), .imm p, .imm m, .emp, .imm (.bl u), .imm (.bl v)], st⟩ := by
  by_cases c0 : w = 0
  · subst c0
    cases u <;> cases v <;> simp [mOr, mVar, bnd, DL.ret, optB, tru, kw]
  · by_cases c1 : w = 1
    · subst c1
      cases u <;> cases v <;> simp [mAnd, mVar, bnd, DL.ret, optB, tru, kw]
    · by_cases c2 : w = 2
      · subst c2
        cases u <;> cases v <;> simp [e2, mIf, mBl, mBin, mC, eq_int, lift, isBl, mAnd, mNot, mVar, bnd, DL.ret, optB, tru, kw]
      · cases u <;> cases v <;> simp [c0, c1, c2, e2, mIf, mBl, mBin, mC, eq_int, ne_bl, lift, isBl, mAnd, mNot, mVar, bnd, DL.ret, optB, tru, kw]
abbrev lcM (el : ME) : MA := mLc (mIt (mVar 4)) (gTp 2 (gsCons (gNm 6) (gsCons (gNm 7) gsNil))) mYes el [6, 7]
theorem lcM_if (w : Int) (x y z : ME) : (if w = 0 then lcM x else if w = 1 then lcM y else lcM z) = lcM (if w = 0 then x else if w = 1 then y else z) := by
  by_cases c0 : w = 0
  · simp [c0]
  · by_cases c1 : w = 1
    · simp [c1]
    · simp [c0, c1]
theorem mixed_eq {l1 l2 : List Sq} {w : Int} {st : List Ob} (hl : l1.length + l2.length ≤ 1000) (hp : (pts (l1 ++ l2)).length < 64) : f__law_mixed_up [.tup (l1.map eD), .tup (l2.map eD), .int w] st = .ok (.tup ((pr (lawOf (l1 ++ l2) fun n => kw w (wi l1 n) (wi l2 n))).map eD)) st := by
  have hc : fAdd (.tup (l1.map eD)) (.tup (l2.map eD)) = some (.tup ((l1 ++ l2).map eD)) := by
    have f1 : few ((l1.map eD).length + (l2.map eD).length) := by unfold few; simp; omega
    simp only [fAdd, DL.tAdd, f1, if_true, List.map_append]
  have h1 := points_eq (d := .tup ((l1 ++ l2).map eD)) (l := l1 ++ l2) (st := st) rfl (by simpa using hl) hp
  have h2 := x_marks (fw := f__law_within) (a := .tup (l1.map eD)) (b := .tup (l2.map eD)) (w := .int w) (p := pts (l1 ++ l2)) (f := wi l1) (g := wi l2) (st := st) (fun x _ => within_eq rfl (by omega)) (fun x _ => within_eq rfl (by omega)) (by omega)
  have h3 := x_out (a := .tup (l1.map eD)) (b := .tup (l2.map eD)) (w := .int w) (p := .lst ((pts (l1 ++ l2)).map .int)) (ms := (pts (l1 ++ l2)).map fun x => (wi l1 x, wi l2 x)) (st := st) (k := kw w) (el := if w = 0 then mOr (mVar 6) (mVar 7) else if w = 1 then mAnd (mVar 6) (mVar 7) else e2) (fun u v => el_eq u v) (by simp; omega)
  have e : ((pts (l1 ++ l2)).map fun x => (wi l1 x, wi l2 x)).map (fun q => kw w q.1 q.2) = (pts (l1 ++ l2)).map fun n => kw w (wi l1 n) (wi l2 n) := by
    rw [List.map_map]; rfl
  rw [e] at h3
  have h4 := spread_at (l := l1 ++ l2) (f := fun n => kw w (wi l1 n) (wi l2 n)) (st := st) hp
  exact mix_gen (M := mLc (mIt (mVar 3)) (gNm 5) mYes (xEl f__law_within) [5]) (A0 := lcM (mOr (mVar 6) (mVar 7))) (A1 := lcM (mAnd (mVar 6) (mVar 7))) (A2 := lcM e2) (sl := .imm (.lst (((pts (l1 ++ l2)).map fun x => (wi l1 x, wi l2 x)).map mD))) hc h1 h2 (by rw [lcM_if]; exact h3) h4
end SP

namespace SP
open PySem PySem.Spec L2 DL LC
/-! ### is_stretch, Span.__init__ -/
theorem isw_int (i : Int) (st : List Ob) : f_is_whole [.int i] st = .ok (.bl true) st := by
  simp [f_is_whole, fnM, m_is_whole, mRet, mAnd, mNot, mUn, fIsi, tyD, subT, mLook, cur, bnd, DL.ret, slots, lift, optB, tru, endR]
theorem ne_int (i j : Int) : fNe (.int i) (.int j) = some (.bl (!decide (i = j))) := by
  have h1 : (pd 50 (.int i)).isSome = true := rfl
  have h2 : (pd 50 (.int j)).isSome = true := rfl
  unfold fNe
  rw [if_pos ⟨h1, h2⟩]
  simp [deq, sc]
  by_cases h : i = j <;> simp [h]
theorem str_gen {fw : Fn} (hw : ∀ i st, fw [.int i] st = .ok (.bl true) st) {s : Sq} {st : List Ob} (h : okS s) : fnM 3 (mSeq (mIfS (mOrT (mNotT (mTru (mUn (fIsi "tuple") (mLook 0)))) (mBl (mBin fNe (mUn fLen (mLook 0)) (mC (.int 2))))) (mRet (mC (.bl false))) mPass)
  (mSeq (mAsg (gTL 2 (gsCons (gNm 1) (gsCons (gNm 2) gsNil))) (mVar 0))
  (mSeq (mIfS (mOrT (mNotT (mTru (mCall fw (mCons (mVar 1) mNil)))) (mBl (mBin iLt (mVar 1) (mC (.int 0))))) (mRet (mC (.bl false))) mPass)
  (mRet (mOr (mBin fIsN (mVar 2) (mC .non)) (mAnd (mCall fw (mCons (mVar 2) mNil)) (mBin iGe (mVar 2) (mVar 1)))))))) [eD s] st = .ok (.bl true) st := by
  obtain ⟨a, b⟩ := s
  obtain ⟨h0, h1⟩ := h
  have n0 : ¬ a < 0 := by simpa using h0
  have q : fNe (.int 2) (.int 2) = some (.bl false) := by rw [ne_int]; rfl
  cases b with
  | none =>
    simp [fnM, eD, oD, slots, mSeq, mIfS, mOrT, mNotT, mTru, mUn, fIsi, tyD, subT, mLook, cur, bnd, DL.ret, lift, optB, tru, mBl, mBin, fLen, itD, mC, q, isBl, mPass, mAsg, gTL, gsCons, gNm, gsNil, mVar, S.puts, S.put, mCall, mCons, mNil, hw, outR, iLt, intF, n0, mRet, mOr, fIsN, DL.isNon, endR]
  | some b =>
    have hb : b ≥ a := h1 b rfl
    simp [fnM, eD, oD, slots, mSeq, mIfS, mOrT, mNotT, mTru, mUn, fIsi, tyD, subT, mLook, cur, bnd, DL.ret, lift, optB, tru, mBl, mBin, fLen, itD, mC, q, isBl, mPass, mAsg, gTL, gsCons, gNm, gsNil, mVar, S.puts, S.put, mCall, mCons, mNil, hw, outR, iLt, iGe, intF, n0, mRet, mOr, mAnd, fIsN, DL.isNon, endR, hb]
theorem str_eq {s : Sq} {st : List Ob} (h : okS s) : f_is_stretch [eD s] st = .ok (.bl true) st := str_gen isw_int h
def kOr (a b : Bool) : Bool := a || b
/-- the turning points after the stretches of a row, one by one -/
def addS (t : List Int) (s : Sq) : List Int := cmb kOr t (flat [s])
theorem add_tp {t : List Int} {f : Int → Bool} {s : Sq} (h : Tp t f) (hs : okS s) : Tp (addS t s) fun n => f n || inS s n := cmb_tp rfl h (inS_tp hs)
theorem fold_tp : ∀ (l : List Sq) (t : List Int) (f : Int → Bool), Tp t f → (∀ s ∈ l, okS s) → Tp (l.foldl addS t) fun n => f n || wi l n
  | [], t, f, h, _ => h.congr fun n => by simp [wi]
  | s :: r, t, f, h, hs => by
    have := fold_tp r (addS t s) _ (add_tp h (hs s List.mem_cons_self)) fun x hx => hs x (List.mem_cons_of_mem _ hx)
    exact this.congr fun n => by simp [wi, Bool.or_assoc]
theorem tp_nil : Tp [] fun _ => false := ⟨.nil, fun x => by simp, fun _ _ => rfl⟩
theorem row_tp {l : List Sq} (h : ∀ s ∈ l, okS s) : Tp (l.foldl addS []) (wi l) := (fold_tp l [] _ tp_nil h).congr fun n => by simp
theorem add_len (t : List Int) (s : Sq) : (addS t s).length ≤ t.length + 2 := by
  have := cmb_len kOr t (flat [s])
  have h2 : (flat [s]).length ≤ 2 := by obtain ⟨a, b⟩ := s; cases b <;> simp [flat]
  unfold addS
  omega
theorem pr_len : ∀ t : List Int, (pr t).length ≤ t.length
  | [] => by simp [pr]
  | [x] => by simp [pr]
  | x :: y :: r => by have := pr_len r; simp [pr]; omega
theorem init_body {fi fc : Fn} {k : D} {n d t R : D} {x : D} {st : List Ob} (h1 : fi [x] st = .ok (.bl true) st) (h2 : fc [t, .tup [x], k] st = .ok R st) (rz : MS) :
    (mSeq (mIfS (mNotT (mTru (mCall fi (mCons (mVar 3) mNil)))) rz mPass) (mSet 2 (mCall fc (mCons (mVar 2) (mCons (mTup (mCons (mVar 3) mNil)) (mCons (mC k) mNil)))))) ⟨[.imm n, .imm d, .imm t, .imm x], st⟩ = .ok .nx ⟨[.imm n, .imm d, .imm R, .imm x], st⟩ := by
  simp [mSeq, mIfS, mNotT, mTru, mCall, mCons, mNil, mVar, bnd, DL.ret, h1, h2, outR, optB, tru, mPass, mSet, mTup, few, mC, S.put]
theorem init_loop {n d : D} {st : List Ob} (rz : MS) : ∀ (r : List Sq) (t : List Int) (z : Slot), (∀ s ∈ r, okS s) → t.length + 2 * r.length ≤ 300 → ∃ z', fo (gNm 3) (mSeq (mIfS (mNotT (mTru (mCall f_is_stretch (mCons (mVar 3) mNil)))) rz mPass) (mSet 2 (mCall f_combined (mCons (mVar 2) (mCons (mTup (mCons (mVar 3) mNil)) (mCons (mC (kD kOr)) mNil)))))) (r.map eD) ⟨[.imm n, .imm d, .imm (.tup ((pr t).map eD)), z], st⟩ = .ok .nx ⟨[.imm n, .imm d, .imm (.tup ((pr (r.foldl addS t)).map eD)), z'], st⟩
  | [], t, z, _, _ => ⟨z, rfl⟩
  | s :: r, t, z, hs, hl => by
    have al := add_len t s
    obtain ⟨z', e⟩ := init_loop rz r (addS t s) (.imm (eD s)) (fun x hx => hs x (List.mem_cons_of_mem _ hx)) (by simp at hl; omega)
    refine ⟨z', ?_⟩
    have pl := pr_len t
    have hc := comb_eq (k := kOr) (d1 := .tup ((pr t).map eD)) (d2 := .tup [eD s]) (l1 := pr t) (l2 := [s]) (st := st) rfl rfl (by simp at hl ⊢; omega)
    rw [flat_pr] at hc
    rw [List.map_cons, fo_step (l := [(3, eD s)]) rfl (init_body (n := n) (d := d) (str_eq (hs s List.mem_cons_self)) hc rz)]
    exact e
/-- a list or a tuple of stretches -/
def isSeq (d : D) : Prop := (∃ ds, d = .tup ds) ∨ ∃ ds, d = .lst ds
theorem init_gen {body : MS} {rz : MS} {n : Nat} {d R : D} {ds : List D} {fs : List (Str × D)} {z' : Slot} {st : List Ob} (hq : isSeq d) (hi : itD d = some ds) (hn : st[n]? = some (.ins "Span" fs)) (hf : fs.length < 1000)
    (hl : fo (gNm 3) body ds ⟨[.imm (.loc n), .imm d, .imm (.tup []), .emp], st⟩ = .ok .nx ⟨[.imm (.loc n), .imm d, .imm R, z'], st⟩) :
    fnM 4 (mSeq (mIfS (mNotT (mTru (mUn (fIsiA ["list", "tuple"]) (mVar 1)))) rz mPass) (mSeq (mSet 2 (mTup mNil)) (mSeq (mFor (mIt (mVar 1)) (gNm 3) body) (mSetF "Span" "stretches" (mVar 0) (mVar 2))))) [.loc n, d] st = .ok .non (st.set n (.ins "Span" (putFD "stretches" R fs))) := by
  have a1 : mIfS (mNotT (mTru (mUn (fIsiA ["list", "tuple"]) (mVar 1)))) rz mPass ⟨[.imm (.loc n), .imm d, .emp, .emp], st⟩ = .ok .nx ⟨[.imm (.loc n), .imm d, .emp, .emp], st⟩ := by
    rcases hq with ⟨es, rfl⟩ | ⟨es, rfl⟩ <;> simp [mIfS, mNotT, mTru, mUn, fIsiA, tyD, subT, mVar, bnd, DL.ret, lift, optB, tru, mPass]
  have a2 : mSet 2 (mTup mNil) ⟨[.imm (.loc n), .imm d, .emp, .emp], st⟩ = .ok .nx ⟨[.imm (.loc n), .imm d, .imm (.tup []), .emp], st⟩ := by
    simp [mSet, mTup, mNil, bnd, DL.ret, few, S.put]
  have a3 := for_of (it := mIt (mVar 1)) (s := ⟨[.imm (.loc n), .imm d, .imm (.tup []), .emp], st⟩) (s1 := ⟨[.imm (.loc n), .imm d, .imm (.tup []), .emp], st⟩) (by simp [mIt, mVar, bnd, hi]) hl
  show endR (mSeq _ _ ⟨[.imm (.loc n), .imm d, .emp, .emp], st⟩) = _
  rw [seq_nx a1, seq_nx a2, seq_nx a3]
  simp [mSetF, mVar, bnd, insAt, hn, hf, endR]
theorem init_eq {n : Nat} {d : D} {l : List Sq} {fs : List (Str × D)} {st : List Ob} (hq : isSeq d) (hi : itD d = some (l.map eD)) (hs : ∀ s ∈ l, okS s) (hl : l.length ≤ 150) (hn : st[n]? = some (.ins "Span" fs)) (hf : fs.length < 1000) :
    f_Span___init__ [.loc n, d] st = .ok .non (st.set n (.ins "Span" (putFD "stretches" (.tup ((pr (l.foldl addS [])).map eD)) fs))) := by
  obtain ⟨z', e⟩ := init_loop (n := .loc n) (d := d) (st := st) (mRaise "BadValue" "shown" (mVar 3)) l [] .emp hs (by simp; omega)
  exact init_gen hq hi hn hf e
end SP

namespace SP
open PySem PySem.Spec L2 DL LC
/-! ### the operators -/
abbrev spO (a : D) : Ob := .ins "Span" [("stretches", a)]
theorem isC_of {i : Nat} {a : D} {st : List Ob} {sl : List Slot} (hi : st[i]? = some (spO a)) {j : Nat} (hj : cur ⟨sl, st⟩ j = some (.loc i)) : mIfS (mNotT (mTru (mIsC "Span" (mLook j)))) stk mPass ⟨sl, st⟩ = .ok .nx ⟨sl, st⟩ := by
  simp [mIfS, mNotT, mTru, mIsC, mLook, hj, bnd, insAt, hi, DL.ret, optB, tru, mPass]
theorem fld_of {i : Nat} {a : D} {st : List Ob} {sl : List Slot} (hi : st[i]? = some (spO a)) {j : Nat} (hj : sl[j]? = some (.imm (.loc i))) : mFld "Span" "stretches" (mVar j) ⟨sl, st⟩ = .ok a ⟨sl, st⟩ := by
  simp [mFld, mVar, hj, bnd, insAt, hi, lift, DL.ret]
theorem op_make {fi fc : Fn} {i j : Nat} {a b c k : D} {st st' : List Ob} (hi : st[i]? = some (spO a)) (hj : st[j]? = some (spO b)) (hc : fc [a, b, k] st = .ok c st) (hm : fi [.loc st.length, c] (st ++ [.ins "Span" []]) = .ok .non st') :
    fnM 2 (mSeq (mIfS (mNotT (mTru (mIsC "Span" (mLook 1)))) stk mPass) (mRet (mMake "Span" fi (mCons (mCall fc (mCons (mFld "Span" "stretches" (mVar 0)) (mCons (mFld "Span" "stretches" (mVar 1)) (mCons (mC k) mNil)))) mNil)))) [.loc i, .loc j] st = .ok (.loc st.length) st' := by
  have f0 := fld_of (sl := [.imm (.loc i), .imm (.loc j)]) hi (j := 0) rfl
  have f1 := fld_of (sl := [.imm (.loc i), .imm (.loc j)]) hj (j := 1) rfl
  show endR (mSeq _ _ ⟨[.imm (.loc i), .imm (.loc j)], st⟩) = _
  rw [seq_nx (isC_of hj rfl)]
  simp only [mRet, mMake, mCons, mCall, mNil, mC, bnd, DL.ret, f0, f1, hc, outR, hm, endR]
theorem op_in {fc : Fn} {i j : Nat} {a b c k : D} {st : List Ob} (hi : st[i]? = some (spO a)) (hj : st[j]? = some (spO b)) (hc : fc [a, b, k] st = .ok c st) :
    fnM 2 (mSeq (mIfS (mNotT (mTru (mIsC "Span" (mLook 1)))) stk mPass) (mSeq (mSetF "Span" "stretches" (mVar 0) (mCall fc (mCons (mFld "Span" "stretches" (mVar 0)) (mCons (mFld "Span" "stretches" (mVar 1)) (mCons (mC k) mNil))))) (mRet (mVar 0)))) [.loc i, .loc j] st = .ok (.loc i) (st.set i (spO c)) := by
  have f0 := fld_of (sl := [.imm (.loc i), .imm (.loc j)]) hi (j := 0) rfl
  have f1 := fld_of (sl := [.imm (.loc i), .imm (.loc j)]) hj (j := 1) rfl
  have a2 : mSetF "Span" "stretches" (mVar 0) (mCall fc (mCons (mFld "Span" "stretches" (mVar 0)) (mCons (mFld "Span" "stretches" (mVar 1)) (mCons (mC k) mNil)))) ⟨[.imm (.loc i), .imm (.loc j)], st⟩ = .ok .nx ⟨[.imm (.loc i), .imm (.loc j)], st.set i (spO c)⟩ := by
    have v0 : mVar 0 ⟨[.imm (.loc i), .imm (.loc j)], st⟩ = .ok (.loc i) ⟨[.imm (.loc i), .imm (.loc j)], st⟩ := rfl
    simp only [mSetF, mCall, mCons, mNil, mC, bnd, DL.ret, f0, f1, hc, outR, v0, insAt, hi]
    simp [putFD]
  show endR (mSeq _ _ ⟨[.imm (.loc i), .imm (.loc j)], st⟩) = _
  rw [seq_nx (isC_of hj rfl), seq_nx a2]
  rfl
theorem op_inv {fi fc : Fn} {i : Nat} {a e c k : D} {st st' : List Ob} (hi : st[i]? = some (spO a)) (hc : fc [e, a, k] st = .ok c st) (hm : fi [.loc st.length, c] (st ++ [.ins "Span" []]) = .ok .non st') :
    fnM 1 (mRet (mMake "Span" fi (mCons (mCall fc (mCons (mC e) (mCons (mFld "Span" "stretches" (mVar 0)) (mCons (mC k) mNil)))) mNil))) [.loc i] st = .ok (.loc st.length) st' := by
  have f0 := fld_of (sl := [.imm (.loc i)]) hi (j := 0) rfl
  show endR (mRet _ ⟨[.imm (.loc i)], st⟩) = _
  simp only [mRet, mMake, mCons, mCall, mNil, mC, bnd, DL.ret, f0, hc, outR, hm, endR]
/-- a new span of the turning points t -/
theorem make_pr {t : List Int} {f : Int → Bool} {st : List Ob} (h : Tp t f) (hl : t.length ≤ 150) : f_Span___init__ [.loc st.length, .tup ((pr t).map eD)] (st ++ [.ins "Span" []]) = .ok .non (st ++ [spO (.tup ((pr t).map eD))]) := by
  have pl := pr_len t
  have e := init_eq (n := st.length) (d := .tup ((pr t).map eD)) (l := pr t) (fs := []) (st := st ++ [.ins "Span" []]) (.inl ⟨_, rfl⟩) rfl (pr_ok h.up fun x hx => h.nn hx) (by omega) (by simp) (by simp)
  have u : (pr t).foldl addS [] = t := by
    have r := row_tp (l := pr t) (pr_ok h.up fun x hx => h.nn hx)
    exact (r.congr fun n => by rw [wi_pr n h.up, h.par]).uniq h
  rw [e, u]
  simp [putFD]
end SP

namespace SP
open PySem PySem.Spec L2 DL LC
def kAnd (a b : Bool) : Bool := a && b
def kSub (a b : Bool) : Bool := a && !b
def kXor (a b : Bool) : Bool := xor a b
abbrev pD (t : List Int) : D := .tup ((pr t).map eD)
theorem comb_pr {k : Bool → Bool → Bool} {t u : List Int} {st : List Ob} (h1 : t.length ≤ 100) (h2 : u.length ≤ 100) : f_combined [pD t, pD u, kD k] st = .ok (pD (cmb k t u)) st := by
  have a := pr_len t
  have b := pr_len u
  have := comb_eq (k := k) (d1 := pD t) (d2 := pD u) (l1 := pr t) (l2 := pr u) (st := st) rfl rfl (by omega)
  rw [flat_pr, flat_pr] at this
  exact this
theorem comb_ev {k : Bool → Bool → Bool} {u : List Int} {st : List Ob} (h2 : u.length ≤ 100) : f_combined [.kt [.kt [.int 0, .non]], pD u, kD k] st = .ok (pD (cmb k [0] u)) st := by
  have b := pr_len u
  have e := tp_eq (d := pD u) (l := pr u) (st := st) rfl (by omega)
  rw [flat_pr] at e
  exact comb_tp (t := [0]) (tp_every st) e (by simp; omega)
section
variable {i j : Nat} {t u : List Int} {f g : Int → Bool} {st : List Ob} (ht : Tp t f) (hu : Tp u g) (l1 : t.length ≤ 70) (l2 : u.length ≤ 70) (hi : st[i]? = some (spO (pD t))) (hj : st[j]? = some (spO (pD u)))
include ht hu l1 l2 hi hj
theorem or_eq : f_Span___or__ [.loc i, .loc j] st = .ok (.loc st.length) (st ++ [spO (pD (cmb kOr t u))]) :=
  op_make hi hj (comb_pr (k := kOr) (by omega) (by omega)) (make_pr (cmb_tp rfl ht hu) (by have := cmb_len kOr t u; omega))
theorem xor_eq : f_Span___xor__ [.loc i, .loc j] st = .ok (.loc st.length) (st ++ [spO (pD (cmb kXor t u))]) :=
  op_make hi hj (comb_pr (k := kXor) (by omega) (by omega)) (make_pr (cmb_tp rfl ht hu) (by have := cmb_len kXor t u; omega))
theorem ior_eq : f_Span___ior__ [.loc i, .loc j] st = .ok (.loc i) (st.set i (spO (pD (cmb kOr t u)))) := op_in hi hj (comb_pr (k := kOr) (by omega) (by omega))
theorem iand_eq : f_Span___iand__ [.loc i, .loc j] st = .ok (.loc i) (st.set i (spO (pD (cmb kAnd t u)))) := op_in hi hj (comb_pr (k := kAnd) (by omega) (by omega))
theorem isub_eq : f_Span___isub__ [.loc i, .loc j] st = .ok (.loc i) (st.set i (spO (pD (cmb kSub t u)))) := op_in hi hj (comb_pr (k := kSub) (by omega) (by omega))
end
theorem tp_all : Tp [0] fun n => decide (0 ≤ n) := by
  have := inS_tp (s := (0, none)) ⟨by decide, fun _ z => by cases z⟩
  exact this.congr fun n => by simp [inS]
theorem inv_eq {i : Nat} {t : List Int} {f : Int → Bool} {st : List Ob} (ht : Tp t f) (l1 : t.length ≤ 70) (hi : st[i]? = some (spO (pD t))) : f_Span___invert__ [.loc i] st = .ok (.loc st.length) (st ++ [spO (pD (cmb kSub [0] t))]) :=
  op_inv hi (comb_ev (k := kSub) (by omega)) (make_pr (cmb_tp rfl tp_all ht) (by have := cmb_len kSub [0] t; simp at this; omega))
/-! ### the law's answers are the same lists -/
theorem law_row {l : List Sq} (h : ∀ s ∈ l, okS s) : lawOf l (wi l) = l.foldl addS [] := (lawOf_tp (fun n hn => wi_ng h hn) fun x hx => wi_ch hx).uniq (row_tp h)
theorem law_mix {t u : List Int} {f g : Int → Bool} (ht : Tp t f) (hu : Tp u g) {k : Bool → Bool → Bool} (hk : k false false = false) : lawOf (pr t ++ pr u) (fun n => k (wi (pr t) n) (wi (pr u) n)) = cmb k t u := by
  have e1 : ∀ n, wi (pr t) n = f n := fun n => by rw [wi_pr n ht.up, ht.par]
  have e2 : ∀ n, wi (pr u) n = g n := fun n => by rw [wi_pr n hu.up, hu.par]
  have z : (fun n => k (wi (pr t) n) (wi (pr u) n)) = fun n => k (f n) (g n) := funext fun n => by rw [e1, e2]
  rw [z]
  refine (lawOf_tp (fun n hn => by show k (f n) (g n) = false; rw [ht.ng n hn, hu.ng n hn]; exact hk) fun x hx => ?_).uniq (cmb_tp hk ht hu)
  rw [flat_app, flat_pr, flat_pr, List.mem_append]
  by_cases a : x ∈ t
  · exact .inl a
  · by_cases b : x ∈ u
    · exact .inr b
    · refine (hx ?_).elim
      have ea : f x = f (x - 1) := by
        cases q : decide (f x = f (x - 1)) with
        | true => exact of_decide_eq_true q
        | false => exact (a ((ht.ch x).mpr (of_decide_eq_false q))).elim
      have eb : g x = g (x - 1) := by
        cases q : decide (g x = g (x - 1)) with
        | true => exact of_decide_eq_true q
        | false => exact (b ((hu.ch x).mpr (of_decide_eq_false q))).elim
      show k (f x) (g x) = k (f (x - 1)) (g (x - 1))
      rw [ea, eb]
end SP

namespace SP
open PySem PySem.Spec L2 DL LC
/-! ### _law_span_is -/
theorem pd_e (n : Nat) (s : Sq) : (pd (n + 1) (eD s)).isSome = true := by
  unfold eD pd
  rw [Option.isSome_map]
  refine pds_some fun d hd => ?_
  rcases List.mem_cons.mp hd with z | hd
  · subst z; cases n <;> rfl
  · rw [List.mem_singleton.mp hd]; exact pd_o _ _
theorem pd_pD (t : List Int) : (pd 50 (pD t)).isSome = true := by
  unfold pd
  rw [Option.isSome_map]
  exact pds_some fun d hd => by
    obtain ⟨p, _, rfl⟩ := List.mem_map.mp hd
    exact pd_e _ p
theorem deqs_refl {f : D → D → Option Bool} : ∀ {ds : List D}, (∀ d ∈ ds, f d d = some true) → deqs f ds ds = some true
  | [], _ => rfl
  | d :: ds, h => by
    unfold deqs
    rw [h d List.mem_cons_self, deqs_refl fun x hx => h x (List.mem_cons_of_mem _ hx)]
    rfl
theorem deq_e (s : Sq) : deq 49 (eD s) (eD s) = some true := by
  obtain ⟨a, b⟩ := s
  cases b <;> simp [eD, oD, deq, deqs, sc]
theorem ne_pD (t : List Int) : fNe (pD t) (pD t) = some (.bl false) := by
  unfold fNe
  rw [if_pos ⟨pd_pD t, pd_pD t⟩]
  have : deq 50 (pD t) (pD t) = some true := deqs_refl fun d hd => by
    obtain ⟨p, _, rfl⟩ := List.mem_map.mp hd
    exact deq_e p
  rw [this]
  rfl
theorem whole_int (i : Int) (st : List Ob) : f__law_whole [.int i] st = .ok (.bl true) st := by
  simp [f__law_whole, fnM, m__law_whole, mRet, mAnd, mNot, mUn, fIsi, tyD, subT, mLook, cur, bnd, DL.ret, slots, lift, optB, tru, endR]
def aEl (fw : Fn) : ME := mAnd (mCall fw (mCons (mVar 4) mNil)) (mOr (mBin fIsN (mVar 5) (mC .non)) (mCall fw (mCons (mVar 5) mNil)))
theorem aEl_eq {fw : Fn} (hw : ∀ i st, fw [.int i] st = .ok (.bl true) st) {a b c d : Slot} (s : Sq) (st : List Ob) : aEl fw ⟨[a, b, c, d, .imm (.int s.1), .imm (oD s.2)], st⟩ = .ok (.bl true) ⟨[a, b, c, d, .imm (.int s.1), .imm (oD s.2)], st⟩ := by
  obtain ⟨x, y⟩ := s
  cases y <;> simp [aEl, oD, mAnd, mOr, mCall, mCons, mNil, mVar, mBin, fIsN, DL.isNon, mC, bnd, DL.ret, lift, optB, tru, hw, outR]
theorem all_true : ∀ (l : List Sq), blsD (l.map fun _ => D.bl true) = some (l.map fun _ => true)
  | [] => rfl
  | s :: r => by simp [blsD, all_true r]
theorem c_tup {a b : Slot} {l : List Sq} {st : List Ob} (hl : l.length ≤ 1000) : mLc (mIt (mVar 2)) (gNm 3) mYes (mUn (fIsi "tuple") (mLook 3)) [3] ⟨[a, b, .imm (.tup (l.map eD)), .emp, .emp, .emp], st⟩ = .ok (l.map fun _ => D.bl true) ⟨[a, b, .imm (.tup (l.map eD)), .emp, .emp, .emp], st⟩ ∨ noX ⟨[a, b, .imm (.tup (l.map eD)), .emp, .emp, .emp], st⟩ = false := by
  cases hx : noX ⟨[a, b, .imm (.tup (l.map eD)), .emp, .emp, .emp], st⟩ with
  | false => exact .inr rfl
  | true =>
    refine .inl ?_
    rw [lc_map (i := 3) (f := fun _ => D.bl true) (s := ⟨[a, b, .imm (.tup (l.map eD)), .emp, .emp, .emp], st⟩) (ds := l.map eD) (by simp [mIt, mVar, bnd, itD]) rfl hx (fun z hz => by
      obtain ⟨s, _, rfl⟩ := List.mem_map.mp hz
      simp [mUn, fIsi, tyD, eD, subT, mLook, cur, bnd, DL.ret, lift, S.put]) (by unfold few; simp; omega)]
    rw [List.map_map]
    rfl
theorem c_int {fw : Fn} (hw : ∀ i st, fw [.int i] st = .ok (.bl true) st) {i : Nat} {d : D} {l : List Sq} {st : List Ob} (hl : l.length ≤ 1000) : mLc (mIt (mVar 2)) (gTp 2 (gsCons (gNm 4) (gsCons (gNm 5) gsNil))) mYes (aEl fw) [4, 5] ⟨[.imm (.loc i), .imm d, .imm (.tup (l.map eD)), .emp, .emp, .emp], st⟩ = .ok (l.map fun _ => D.bl true) ⟨[.imm (.loc i), .imm d, .imm (.tup (l.map eD)), .emp, .emp, .emp], st⟩ := by
  rw [lc_gen (F := fun _ => some (.bl true)) (s := ⟨[.imm (.loc i), .imm d, .imm (.tup (l.map eD)), .emp, .emp, .emp], st⟩) (ds := l.map eD) (by simp [mIt, mVar, bnd, itD]) rfl rfl (fun z hz => by
    obtain ⟨s, _, rfl⟩ := List.mem_map.mp hz
    exact ⟨[(4, .int s.1), (5, oD s.2)], rfl, rfl, rfl, rfl, aEl_eq hw s st⟩) (by unfold few; simp; omega)]
  rw [fm_map (G := fun _ => D.bl true) l fun s _ => rfl]
theorem all_all (l : List Sq) : (l.map fun _ => true).all id = true := by simp
theorem is_gen {L1 L2 : MA} {i : Nat} {x : D} {b1 b2 : List D} {v1 v2 : List Bool} {st : List Ob} (hi : st[i]? = some (spO x)) (hx : tyD x = some "tuple") (hne : fNe x x = some (.bl false))
    (h1 : L1 ⟨[.imm (.loc i), .imm x, .imm x, .emp, .emp, .emp], st⟩ = .ok b1 ⟨[.imm (.loc i), .imm x, .imm x, .emp, .emp, .emp], st⟩) (e1 : blsD b1 = some v1) (a1 : v1.all id = true)
    (h2 : L2 ⟨[.imm (.loc i), .imm x, .imm x, .emp, .emp, .emp], st⟩ = .ok b2 ⟨[.imm (.loc i), .imm x, .imm x, .emp, .emp, .emp], st⟩) (e2 : blsD b2 = some v2) (a2 : v2.all id = true) :
    fnM 6 (mSeq (mSet 2 (mFld "Span" "stretches" (mVar 0))) (mSeq (mIfS (mOrT (mNotT (mTru (mUn (fIsi "tuple") (mLook 2)))) (mOrT (mBl (mNeV 2 (mVar 1))) (mNotT (mTru (mUn fAll (mFz L1)))))) (mRet (mC (.bl false))) mPass) (mRet (mUn fAll (mFz L2))))) [.loc i, x] st = .ok (.bl true) st := by
  have f0 := fld_of (sl := [.imm (.loc i), .imm x, .emp, .emp, .emp, .emp]) hi (j := 0) rfl
  have s1 : mSet 2 (mFld "Span" "stretches" (mVar 0)) ⟨[.imm (.loc i), .imm x, .emp, .emp, .emp, .emp], st⟩ = .ok .nx ⟨[.imm (.loc i), .imm x, .imm x, .emp, .emp, .emp], st⟩ := by
    simp only [mSet, bnd, f0, S.put]; rfl
  have s2 : mIfS (mOrT (mNotT (mTru (mUn (fIsi "tuple") (mLook 2)))) (mOrT (mBl (mNeV 2 (mVar 1))) (mNotT (mTru (mUn fAll (mFz L1)))))) (mRet (mC (.bl false))) mPass ⟨[.imm (.loc i), .imm x, .imm x, .emp, .emp, .emp], st⟩ = .ok .nx ⟨[.imm (.loc i), .imm x, .imm x, .emp, .emp, .emp], st⟩ := by
    have t1 : mUn (fIsi "tuple") (mLook 2) ⟨[.imm (.loc i), .imm x, .imm x, .emp, .emp, .emp], st⟩ = .ok (.bl true) ⟨[.imm (.loc i), .imm x, .imm x, .emp, .emp, .emp], st⟩ := by
      simp [mUn, fIsi, hx, subT, mLook, cur, bnd, lift, DL.ret]
    have t2 : mNeV 2 (mVar 1) ⟨[.imm (.loc i), .imm x, .imm x, .emp, .emp, .emp], st⟩ = .ok (.bl false) ⟨[.imm (.loc i), .imm x, .imm x, .emp, .emp, .emp], st⟩ := by
      simp [mNeV, cur, mVar, bnd, hne, lift, DL.ret]
    have t3 : mUn fAll (mFz L1) ⟨[.imm (.loc i), .imm x, .imm x, .emp, .emp, .emp], st⟩ = .ok (.bl true) ⟨[.imm (.loc i), .imm x, .imm x, .emp, .emp, .emp], st⟩ := by
      simp only [mUn, mFz, bnd, h1, DL.ret, fAll, e1, Option.map_some, a1, lift]
    simp [mIfS, mOrT, mNotT, mTru, mBl, bnd, DL.ret, t1, t2, t3, optB, tru, isBl, mPass]
  show endR (mSeq _ _ ⟨[.imm (.loc i), .imm x, .emp, .emp, .emp, .emp], st⟩) = _
  rw [seq_nx s1, seq_nx s2]
  simp only [mRet, mUn, mFz, bnd, h2, DL.ret, fAll, e2, Option.map_some, a2, lift, endR]
theorem span_is {i : Nat} {t : List Int} {st : List Ob} (hi : st[i]? = some (spO (pD t))) (hl : t.length ≤ 500) : f__law_span_is [.loc i, pD t] st = .ok (.bl true) st := by
  have pl := pr_len t
  have h1 := (c_tup (a := .imm (.loc i)) (b := .imm (pD t)) (l := pr t) (st := st) (by omega)).resolve_right (by simp [noX])
  exact is_gen hi rfl (ne_pD t) h1 (all_true _) (all_all _) (c_int whole_int (d := pD t) (by omega)) (all_true _) (all_all _)
end SP

namespace SP
open PySem PySem.Spec L2 DL LC
/-! ### draws that leave the rest of the store -/
def PenT (B : Nat) (rs st : List Ob) : Prop := ∃ cs b r, st = .dct (penL cs b r) :: rs ∧ cs.length ≤ 1000 ∧ 0 ≤ b ∧ b ≤ (B : Int) ∧ 0 ≤ r
theorem PenT.mono {B C : Nat} {rs st : List Ob} (h : PenT B rs st) (l : B ≤ C) : PenT C rs st := by
  obtain ⟨cs, b, r, h1, h2, h3, h4, h5⟩ := h
  exact ⟨cs, b, r, h1, h2, h3, by omega, h5⟩
theorem drawT {B : Nat} {rs st : List Ob} {m : Int} (h : PenT B rs st) (hB : B < 2 ^ 30) (hm : 0 < m) (hm2 : m < 2 ^ 60) : ∃ k st', f__law_draw [.loc 0, .int m] st = .ok (.int k) st' ∧ 0 ≤ k ∧ k < m ∧ PenT (B + 1) rs st' := by
  obtain ⟨cs, b, r, rfl, h2, h3, h4, h5⟩ := h
  have hb : bits m < 9000 := by have := bits_lt (i := m) (k := 60) (by omega) hm2; omega
  by_cases hr : 0 < r
  · exact ⟨_, _, draw1 rs cs b r m hr hm hb, (mod_rng r hm).1, (mod_rng r hm).2, cs, b, _, rfl, h2, h3, by omega, Int.ediv_nonneg (by omega) (by omega)⟩
  · have e : r = 0 := by omega
    subst e
    have hd := draw2 rs cs b m h3 (by omega) h2 hm hb
    generalize (if cellOf cs b < 0 then -cellOf cs b else cellOf cs b) = ab at hd
    split at hd
    · rename_i hc
      refine ⟨_, _, hd, (mod_rng _ hm).1, (mod_rng _ hm).2, cs, _, _, rfl, h2, by omega, by omega, Int.ediv_nonneg ?_ (by omega)⟩
      have := hc.2
      omega
    · exact ⟨_, _, hd, (mod_rng _ hm).1, (mod_rng _ hm).2, cs, _, _, rfl, h2, by omega, by omega, by omega⟩
/-! ### _law_stretch -/
theorem stretch_gen {fd : Fn} {b k1 k2 : Int} {st s1 s2 : List Ob} (h1 : fd [.loc 0, .int 40] st = .ok (.int k1) s1) (h2 : fd [.loc 0, .int 12] s1 = .ok (.int k2) s2) {o : Option Int} {s3 : List Ob}
    (h3 : (k2 = 0 ∧ o = none ∧ s3 = s2) ∨ (¬ k2 = 0 ∧ ∃ k3, fd [.loc 0, .int 7] s2 = .ok (.int k3) s3 ∧ o = some (b + k1 + k3))) :
    fnM 3 (mSeq (mSet 2 (mBin fAdd (mVar 1) (mCall fd (mCons (mVar 0) (mCons (mC (.int 40)) mNil))))) (mRet (mTup (mCons (mVar 2) (mCons (mIf (mBl (mBin fEq (mCall fd (mCons (mVar 0) (mCons (mC (.int 12)) mNil))) (mC (.int 0)))) (mC .non) (mBin fAdd (mVar 2) (mCall fd (mCons (mVar 0) (mCons (mC (.int 7)) mNil))))) mNil))))) [.loc 0, .int b] st = .ok (eD (b + k1, o)) s3 := by
  have a1 : mSet 2 (mBin fAdd (mVar 1) (mCall fd (mCons (mVar 0) (mCons (mC (.int 40)) mNil)))) ⟨[.imm (.loc 0), .imm (.int b), .emp], st⟩ = .ok .nx ⟨[.imm (.loc 0), .imm (.int b), .imm (.int (b + k1))], s1⟩ := by
    simp [mSet, mBin, mVar, mCall, mCons, mNil, mC, bnd, DL.ret, h1, outR, fAdd, lift, S.put]
  show endR (mSeq _ _ ⟨[.imm (.loc 0), .imm (.int b), .emp], st⟩) = _
  rw [seq_nx a1]
  rcases h3 with ⟨h3, rfl, rfl⟩ | ⟨h3, k3, h4, rfl⟩
  · simp [mRet, mTup, mCons, mNil, mVar, mIf, mBl, mBin, mCall, mC, bnd, DL.ret, h2, outR, eq_int, h3, lift, optB, isBl, few, endR, eD, oD]
  · simp [mRet, mTup, mCons, mNil, mVar, mIf, mBl, mBin, mCall, mC, bnd, DL.ret, h2, h4, outR, eq_int, h3, lift, optB, isBl, few, endR, eD, oD, fAdd]
theorem stretch_eq {B : Nat} {rs st : List Ob} {b : Int} (h : PenT B rs st) (hB : B + 3 < 2 ^ 30) (hb : 0 ≤ b) : ∃ s st', f__law_stretch [.loc 0, .int b] st = .ok (eD s) st' ∧ okS s ∧ PenT (B + 3) rs st' := by
  obtain ⟨k1, s1, e1, p1, q1, t1⟩ := drawT h (by omega) (m := 40) (by omega) (by omega)
  obtain ⟨k2, s2, e2, p2, q2, t2⟩ := drawT t1 (by omega) (m := 12) (by omega) (by omega)
  by_cases c : k2 = 0
  · exact ⟨(b + k1, none), s2, stretch_gen e1 e2 (.inl ⟨c, rfl, rfl⟩), ⟨by show 0 ≤ b + k1; omega, fun _ z => by cases z⟩, t2.mono (by omega)⟩
  · obtain ⟨k3, s3, e3, p3, q3, t3⟩ := drawT t2 (by omega) (m := 7) (by omega) (by omega)
    refine ⟨(b + k1, some (b + k1 + k3)), s3, stretch_gen e1 e2 (.inr ⟨c, k3, e3, rfl⟩), ⟨by show 0 ≤ b + k1; omega, fun z hz => ?_⟩, t3.mono (by omega)⟩
    cases hz
    show b + k1 ≤ b + k1 + k3
    omega
end SP

namespace SP
open PySem PySem.Spec L2 DL LC
/-! ### _law_great, _law_base -/
theorem mul_big {i j : Int} (h0 : 0 ≤ i) (h1 : i < 2 ^ 4000) (h2 : 0 ≤ j) (h3 : j < 2 ^ 4000) : fMul (.int i) (.int j) = some (.int (i * j)) := by
  have a := bits_lt h0 h1
  have b := bits_lt h2 h3
  simp only [fMul, iMul, intF]
  rw [if_pos (by omega)]
theorem great_step {fd : Fn} {P : ME} {mm a s Z k a2 z2 : Int} {st st' : List Ob} (hP : ∀ s : S, P s = .ok (.int Z) s) (h1 : fMul (.int a) (.int Z) = some (.int a2)) (h2 : fd [.loc 0, .int Z] st = .ok (.int k) st') (h3 : fMul (.int s) (.int Z) = some (.int z2)) :
    mPar 2 3 (mCons (mBin fAdd (mBin fMul (mVar 2) P) (mCall fd (mCons (mVar 0) (mCons P mNil)))) (mCons (mBin fMul (mVar 3) P) mNil)) ⟨[.imm (.loc 0), .imm (.int mm), .imm (.int a), .imm (.int s)], st⟩ = .ok .nx ⟨[.imm (.loc 0), .imm (.int mm), .imm (.int (a2 + k)), .imm (.int z2)], st'⟩ := by
  simp [mPar, mCons, mNil, mBin, mVar, mCall, bnd, DL.ret, hP, h1, h2, h3, outR, lift, fAdd, S.put]
theorem great_test {mm a s : Int} {st : List Ob} : mBl (mBin iLt (mVar 3) (mVar 1)) ⟨[.imm (.loc 0), .imm (.int mm), .imm (.int a), .imm (.int s)], st⟩ = .ok (decide (s < mm)) ⟨[.imm (.loc 0), .imm (.int mm), .imm (.int a), .imm (.int s)], st⟩ := by
  simp [mBl, mBin, iLt, intF, mVar, bnd, DL.ret, lift, optB, isBl]
theorem p2le {a b : Nat} (h : a ≤ b) : (2 : Int) ^ a ≤ 2 ^ b := by
  have := Nat.pow_le_pow_right (n := 2) (by decide) h
  have e : ∀ k : Nat, ((2 ^ k : Nat) : Int) = (2 : Int) ^ k := fun k => by simp
  rw [← e a, ← e b]
  exact Int.ofNat_le.mpr this
theorem pow_up {a Z k : Int} {e : Nat} (h0 : 0 ≤ a) (h1 : a < 2 ^ e) (z0 : 0 < Z) (z1 : Z < 2 ^ 30) (k1 : k < Z) : a * Z + k < 2 ^ (e + 31) := by
  have e1 : (2 : Int) ^ (e + 31) = 2 ^ e * 2 ^ 31 := Int.pow_add 2 e 31
  have p : (1 : Int) ≤ 2 ^ e := by omega
  have m : a * Z ≤ 2 ^ e * 2 ^ 30 := Int.mul_le_mul (by omega) (by omega) (by omega) (by omega)
  have q : (2 : Int) ^ e * 2 ^ 31 = 2 ^ e * 2 ^ 30 + 2 ^ e * 2 ^ 30 := by
    have : (2 : Int) ^ 31 = 2 ^ 30 + 2 ^ 30 := by decide
    rw [this, Int.mul_add]
  have r : (2 : Int) ^ 30 ≤ 2 ^ e * 2 ^ 30 := by
    have := Int.mul_le_mul_of_nonneg_right p (show (0 : Int) ≤ 2 ^ 30 by decide)
    omega
  omega
theorem great_loop {P : ME} {mm Z : Int} {rs : List Ob} (hP : ∀ s : S, P s = .ok (.int Z) s) (z0 : 0 < Z) (z1 : Z < 2 ^ 30) : ∀ (n e B : Nat) (a s : Int) (st : List Ob), PenT B rs st → B + n < 2 ^ 30 → 0 ≤ a → a < 2 ^ e → 0 ≤ s → s < 2 ^ e → e + 31 * n ≤ 4000 → 31 ≤ e → mm ≤ s * Z ^ n →
    ∃ a' s' st', mWhile (mBl (mBin iLt (mVar 3) (mVar 1))) (mPar 2 3 (mCons (mBin fAdd (mBin fMul (mVar 2) P) (mCall f__law_draw (mCons (mVar 0) (mCons P mNil)))) (mCons (mBin fMul (mVar 3) P) mNil))) ⟨[.imm (.loc 0), .imm (.int mm), .imm (.int a), .imm (.int s)], st⟩ = .ok .nx ⟨[.imm (.loc 0), .imm (.int mm), .imm (.int a'), .imm (.int s')], st'⟩ ∧ PenT (B + n) rs st'
  | 0, e, B, a, s, st, hp, hB, a0, a1, s0, s1, he, he2, hm => by
    have t := great_test (mm := mm) (a := a) (s := s) (st := st)
    rw [decide_eq_false (by simp at hm; omega)] at t
    exact ⟨a, s, st, wh_end t, hp⟩
  | n + 1, e, B, a, s, st, hp, hB, a0, a1, s0, s1, he, he2, hm => by
    have t := great_test (mm := mm) (a := a) (s := s) (st := st)
    by_cases c : s < mm
    · rw [decide_eq_true c] at t
      obtain ⟨k, st1, e1, k0, k1, hp1⟩ := drawT hp (by omega) z0 (m := Z) (Int.lt_of_lt_of_le z1 (p2le (by omega)))
      have big : (2 : Int) ^ e ≤ 2 ^ 4000 := p2le (by omega)
      have zb : Z < 2 ^ 4000 := Int.lt_of_lt_of_le z1 (p2le (by omega))
      have b := great_step (mm := mm) (a := a) (s := s) hP (mul_big a0 (Int.lt_of_lt_of_le a1 big) (Int.le_of_lt z0) zb) e1 (mul_big s0 (Int.lt_of_lt_of_le s1 big) (Int.le_of_lt z0) zb)
      obtain ⟨a', s', st', e2, hp2⟩ := great_loop hP z0 z1 n (e + 31) (B + 1) (a * Z + k) (s * Z) st1 hp1 (by omega) (by have := Int.mul_nonneg a0 (show (0 : Int) ≤ Z by omega); omega) (pow_up a0 a1 z0 z1 k1) (Int.mul_nonneg s0 (by omega)) (by have := pow_up (k := 0) s0 s1 z0 z1 z0; omega) (by omega) (by omega) (by
        have : s * Z * Z ^ n = s * Z ^ (n + 1) := by rw [Int.pow_succ, Int.mul_assoc, Int.mul_comm Z]
        rw [this]; exact hm)
      exact ⟨a', s', st', by rw [wh_step t b]; exact e2, hp2.mono (by omega)⟩
    · rw [decide_eq_false c] at t
      exact ⟨a, s, st, wh_end t, hp.mono (by omega)⟩
end SP

namespace SP
open PySem PySem.Spec L2 DL LC
/-! ### _law_great, _law_base, _law_stretches -/
theorem great_gen {Wl : MS} {mm a s : Int} {st st' : List Ob} (hm : 0 < mm) (h : Wl ⟨[.imm (.loc 0), .imm (.int mm), .imm (.int 0), .imm (.int 1)], st⟩ = .ok .nx ⟨[.imm (.loc 0), .imm (.int mm), .imm (.int a), .imm (.int s)], st'⟩) :
    fnM 4 (mSeq (mAsg (gTL 2 (gsCons (gNm 2) (gsCons (gNm 3) gsNil))) (mTup (mCons (mC (.int 0)) (mCons (mC (.int 1)) mNil)))) (mSeq Wl (mRet (mBin iMod (mUn fInt (mLook 2)) (mVar 1))))) [.loc 0, .int mm] st = .ok (.int (a % mm)) st' := by
  have a1 : mAsg (gTL 2 (gsCons (gNm 2) (gsCons (gNm 3) gsNil))) (mTup (mCons (mC (.int 0)) (mCons (mC (.int 1)) mNil))) ⟨[.imm (.loc 0), .imm (.int mm), .emp, .emp], st⟩ = .ok .nx ⟨[.imm (.loc 0), .imm (.int mm), .imm (.int 0), .imm (.int 1)], st⟩ := by
    simp [mAsg, gTL, gsCons, gNm, gsNil, mTup, mCons, mNil, mC, bnd, DL.ret, few, S.puts, S.put]
  show endR (mSeq _ _ ⟨[.imm (.loc 0), .imm (.int mm), .emp, .emp], st⟩) = _
  rw [seq_nx a1, seq_nx h]
  simp [mRet, mBin, mUn, fInt, mLook, cur, mVar, bnd, DL.ret, lift, iMod, intF, hm, endR]
theorem pw9 (s : S) : mBin iPow (mC (.int 10)) (mC (.int 9)) s = .ok (.int (10 ^ 9)) s := by
  simp [mBin, mC, bnd, DL.ret, iPow, intF, lift]
theorem great_eq {B : Nat} {rs st : List Ob} {mm : Int} (h : PenT B rs st) (hB : B + 7 < 2 ^ 30) (h0 : 0 < mm) (h1 : mm ≤ 1 * (10 ^ 9) ^ 7) : ∃ k st', f__law_great [.loc 0, .int mm] st = .ok (.int k) st' ∧ 0 ≤ k ∧ PenT (B + 7) rs st' := by
  obtain ⟨a, s, st', e, p⟩ := great_loop pw9 (mm := mm) (by decide) (by decide) 7 31 B 0 1 st h hB (by decide) (by decide) (by decide) (by decide) (by decide) (by decide) h1
  exact ⟨a % mm, st', great_gen h0 e, (mod_rng a h0).1, p⟩
theorem base_gen {fd fg : Fn} {P : ME} {mm x : Int} {st s1 s2 : List Ob} {k : Int} (hP : ∀ s : S, P s = .ok (.int mm) s) (h1 : fd [.loc 0, .int 4] st = .ok (.int k) s1) (h2 : (k = 0 ∧ fg [.loc 0, .int mm] s1 = .ok (.int x) s2) ∨ (¬ k = 0 ∧ fd [.loc 0, .int 3] s1 = .ok (.int x) s2)) :
    fnM 1 (mRet (mIf (mBl (mBin fEq (mCall fd (mCons (mVar 0) (mCons (mC (.int 4)) mNil))) (mC (.int 0)))) (mCall fg (mCons (mVar 0) (mCons P mNil))) (mCall fd (mCons (mVar 0) (mCons (mC (.int 3)) mNil))))) [.loc 0] st = .ok (.int x) s2 := by
  rcases h2 with ⟨h2, h3⟩ | ⟨h2, h3⟩ <;>
  simp [fnM, slots, mRet, mIf, mBl, mBin, mCall, mCons, mNil, mVar, mC, bnd, DL.ret, h1, outR, eq_int, h2, lift, optB, isBl, hP, h3, endR]
theorem pw60 (s : S) : mBin iPow (mC (.int 10)) (mC (.int 60)) s = .ok (.int (10 ^ 60)) s := by
  simp [mBin, mC, bnd, DL.ret, iPow, intF, lift]
theorem base_eq {B : Nat} {rs st : List Ob} (h : PenT B rs st) (hB : B + 8 < 2 ^ 30) : ∃ k st', f__law_base [.loc 0] st = .ok (.int k) st' ∧ 0 ≤ k ∧ PenT (B + 8) rs st' := by
  obtain ⟨k1, s1, e1, p1, q1, t1⟩ := drawT h (by omega) (m := 4) (by omega) (by omega)
  by_cases c : k1 = 0
  · obtain ⟨x, s2, e2, x0, t2⟩ := great_eq (mm := 10 ^ 60) t1 (by omega) (by decide) (by decide)
    exact ⟨x, s2, base_gen pw60 e1 (.inl ⟨c, e2⟩), x0, t2⟩
  · obtain ⟨x, s2, e2, x0, _, t2⟩ := drawT t1 (by omega) (m := 3) (by omega) (by omega)
    exact ⟨x, s2, base_gen pw60 e1 (.inr ⟨c, e2⟩), x0, t2.mono (by omega)⟩
theorem lcs_one {g : MG} {m : ME} {vs : List Nat} {acc ds : List D} {d z : D} {l : List (Nat × D)} {s s2 : S} (h1 : g d = some l) (h2 : m (s.puts l) = .ok z s2) (h3 : noX s2 = true) (h4 : acc.length < 1000) : lcs g mYes m vs acc (d :: ds) s = lcs g mYes m vs (acc ++ [z]) ds (wipeS s2 vs) := by
  have f : few (acc.length + 1) := by unfold few; omega
  simp only [lcs, h1, mYes, DL.ret, h2, if_true, f, h3, and_self]
theorem lcs_inv {g : MG} {m : ME} {vs : List Nat} {I : Nat → S → Prop} {Q : D → Prop} {N : Nat} (hs : ∀ n s d, n < N → I n s → ∃ l z s2, g d = some l ∧ m (s.puts l) = .ok z s2 ∧ noX s2 = true ∧ Q z ∧ I (n + 1) (wipeS s2 vs)) :
    ∀ (ds acc : List D) (s : S) (n : Nat), I n s → n + ds.length ≤ N → acc.length + ds.length ≤ 1000 → ∃ zs s', lcs g mYes m vs acc ds s = .ok (acc ++ zs) s' ∧ zs.length = ds.length ∧ (∀ z ∈ zs, Q z) ∧ I (n + ds.length) s'
  | [], acc, s, n, hi, _, _ => ⟨[], s, by simp [lcs], rfl, fun z hz => by simp at hz, hi⟩
  | d :: ds, acc, s, n, hi, hN, hl => by
    simp at hN hl
    obtain ⟨l, z, s2, h1, h2, h3, h4, h5⟩ := hs n s d (by omega) hi
    obtain ⟨zs, s', e1, e2, e3, e4⟩ := lcs_inv hs ds (acc ++ [z]) (wipeS s2 vs) (n + 1) h5 (by omega) (by simp; omega)
    refine ⟨z :: zs, s', ?_, by simp [e2], fun y hy => ?_, ?_⟩
    · rw [lcs_one h1 h2 h3 (by omega), e1, List.append_assoc]; rfl
    · rcases List.mem_cons.mp hy with rfl | hy
      · exact h4
      · exact e3 y hy
    · have : n + (d :: ds).length = n + 1 + ds.length := by simp; omega
      rw [this]; exact e4
theorem lc_inv {it : MA} {g : MG} {m : ME} {vs : List Nat} {I : Nat → S → Prop} {Q : D → Prop} {N : Nat} {ds : List D} {s0 s : S} (hs : ∀ n s d, n < N → I n s → ∃ l z s2, g d = some l ∧ m (s.puts l) = .ok z s2 ∧ noX s2 = true ∧ Q z ∧ I (n + 1) (wipeS s2 vs))
    (hit : it s0 = .ok ds s) (hx : noX s = true) (hi : I 0 (wipeS s vs)) (hN : ds.length ≤ N) (hl : ds.length ≤ 1000) : ∃ zs s', mLc it g mYes m vs s0 = .ok zs s' ∧ zs.length = ds.length ∧ (∀ z ∈ zs, Q z) ∧ I ds.length s' := by
  obtain ⟨zs, s', e1, e2, e3, e4⟩ := lcs_inv hs ds [] (wipeS s vs) 0 hi (by omega) (by simp; omega)
  refine ⟨zs, s', ?_, e2, e3, by simpa using e4⟩
  simp only [mLc, bnd, hit, hx, if_true]
  rw [e1]; simp
theorem un_map {Q : Sq → Prop} : ∀ {zs : List D}, (∀ z ∈ zs, ∃ s, Q s ∧ z = eD s) → ∃ l : List Sq, zs = l.map eD ∧ ∀ s ∈ l, Q s
  | [], _ => ⟨[], rfl, fun _ h => by simp at h⟩
  | z :: zs, h => by
    obtain ⟨s, q, rfl⟩ := h z List.mem_cons_self
    obtain ⟨l, rfl, k⟩ := un_map fun y hy => h y (List.mem_cons_of_mem _ hy)
    exact ⟨s :: l, rfl, fun y hy => (List.mem_cons.mp hy).elim (fun e => e ▸ q) (k y)⟩
theorem st_body {fs : Fn} {b x k : D} {st st' : List Ob} (h : fs [.loc 0, b] st = .ok x st') : mCall fs (mCons (mVar 0) (mCons (mVar 1) mNil)) ⟨[.imm (.loc 0), .imm b, .emp, .imm k], st⟩ = .ok x ⟨[.imm (.loc 0), .imm b, .emp, .imm k], st'⟩ := by
  simp [mCall, mCons, mNil, mVar, bnd, DL.ret, h, outR]
theorem ints_len (a : Int) (n : Nat) : (intsD a n).length = n := by simp [intsD]
theorem strs_gen {fd : Fn} {C : MA} {b : D} {zs : List D} {k1 k2 : Int} {st s1 s2 s3 : List Ob} (h1 : C ⟨[.imm (.loc 0), .imm b, .emp, .emp], st⟩ = .ok zs ⟨[.imm (.loc 0), .imm b, .emp, .emp], s1⟩) (h2 : fd [.loc 0, .int 9] s1 = .ok (.int k1) s2) (h3 : fd [.loc 0, .int 2] s2 = .ok (.int k2) s3) (g0 : 0 ≤ k2) (g1 : k2 < 2) (hl : zs.length ≤ 100) :
    fnM 4 (mSeq (mOwn 2 C) (mRet (mFz (mBinF lAddL (mVar 2) (mFz (mBinF lRepL (mFz (mLst (mCons (mTup (mCons (mC (.int 0)) (mCons (mCall fd (mCons (mVar 0) (mCons (mC (.int 9)) mNil))) mNil))) mNil))) (mCall fd (mCons (mVar 0) (mCons (mC (.int 2)) mNil))))))))) [.loc 0, b] st = .ok (.lst (zs ++ (List.replicate k2.toNat [eD (0, some k1)]).flatten)) s3 := by
  have a1 : mOwn 2 C ⟨[.imm (.loc 0), .imm b, .emp, .emp], st⟩ = .ok .nx ⟨[.imm (.loc 0), .imm b, .own zs, .emp], s1⟩ := by
    simp [mOwn, bnd, h1, S.put]
  have rp : lRepL (.lst [.tup [.int 0, .int k1]]) (.int k2) = some (List.replicate k2.toNat [eD (0, some k1)]).flatten := by
    simp only [lRepL]
    rw [if_pos ⟨by omega, by omega, by unfold few; simp; omega⟩]
    rfl
  have la : lAddL (.lst zs) (.lst (List.replicate k2.toNat [eD (0, some k1)]).flatten) = some (zs ++ (List.replicate k2.toNat [eD (0, some k1)]).flatten) := by
    simp only [lAddL]
    rw [if_pos (by unfold few; simp; omega)]
  show endR (mSeq _ _ ⟨[.imm (.loc 0), .imm b, .emp, .emp], st⟩) = _
  rw [seq_nx a1]
  generalize (List.replicate k2.toNat [eD (0, some k1)]).flatten = W at rp la
  simp [mRet, mFz, mBinF, mVar, bnd, DL.ret, S.put, mLst, mCons, mNil, mTup, mC, mCall, h2, h3, outR, few, rp, la, endR]
theorem rng_draw {fd : Fn} {b c d : Slot} {q : D} {k : Int} {st s1 : List Ob} (h : fd [.loc 0, q] st = .ok (.int k) s1) (k0 : 0 ≤ k) (k1 : k < 1000) : mRng rng1 (mCons (mCall fd (mCons (mVar 0) (mCons (mC q) mNil))) mNil) ⟨[.imm (.loc 0), b, c, d], st⟩ = .ok (intsD 0 k.toNat) ⟨[.imm (.loc 0), b, c, d], s1⟩ := by
  have : rng1 [.int k] = some (intsD 0 k.toNat) := by
    simp only [rng1]
    rw [if_pos ⟨by omega, by omega⟩]
  simp [mRng, mCons, mNil, mCall, mVar, mC, bnd, DL.ret, h, outR, this]
theorem strs_eq {B : Nat} {rs st : List Ob} {b : Int} (h : PenT B rs st) (hB : B + 30 < 2 ^ 30) (hb : 0 ≤ b) : ∃ (l : List Sq) (st' : List Ob), f__law_stretches [.loc 0, .int b] st = .ok (.lst (l.map eD)) st' ∧ (∀ s ∈ l, okS s) ∧ l.length ≤ 8 ∧ PenT (B + 30) rs st' := by
  obtain ⟨k1, s1, e1, p1, q1, t1⟩ := drawT h (by omega) (m := 8) (by omega) (by omega)
  obtain ⟨zs, s', c1, c2, c3, s2, rfl, t2⟩ := lc_inv (it := mRng rng1 (mCons (mCall f__law_draw (mCons (mVar 0) (mCons (mC (.int 8)) mNil))) mNil)) (g := gNm 3) (m := mCall f__law_stretch (mCons (mVar 0) (mCons (mVar 1) mNil))) (vs := [3])
    (I := fun n s => ∃ st, s = ⟨[.imm (.loc 0), .imm (.int b), .emp, .emp], st⟩ ∧ PenT (B + 1 + 3 * n) rs st) (Q := fun z => ∃ s, okS s ∧ z = eD s) (N := 7) (fun n s d hn ⟨st, hs, hp⟩ => by
      subst hs
      obtain ⟨x, st', e, o, p⟩ := stretch_eq (b := b) hp (by omega) hb
      refine ⟨[(3, d)], eD x, _, rfl, st_body (k := d) e, rfl, ⟨x, o, rfl⟩, st', rfl, ?_⟩
      have : B + 1 + 3 * (n + 1) = B + 1 + 3 * n + 3 := by omega
      rw [this]; exact p) (rng_draw (b := .imm (.int b)) (c := .emp) (d := .emp) e1 p1 (by omega)) rfl ⟨s1, rfl, t1⟩ (by rw [ints_len]; omega) (by rw [ints_len]; omega)
  rw [ints_len] at c2 t2
  obtain ⟨k3, s3, e3, p3, q3, t3⟩ := drawT t2 (by omega) (m := 9) (by omega) (by omega)
  obtain ⟨k4, s4, e4, p4, q4, t4⟩ := drawT t3 (by omega) (m := 2) (by omega) (by omega)
  obtain ⟨l, rfl, ok⟩ := un_map c3
  have hl : l.length ≤ 7 := by simp at c2; omega
  have g := strs_gen (fd := f__law_draw) c1 e3 e4 p4 q4 (by simp; omega)
  refine ⟨l ++ (List.replicate k4.toNat [((0 : Int), some k3)]).flatten, s4, ?_, fun s hs => ?_, ?_, t4.mono (by omega)⟩
  · refine g.trans ?_
    congr 2
    simp [List.map_append, List.map_flatten, List.map_replicate]
  · rcases List.mem_append.mp hs with hs | hs
    · exact ok s hs
    · simp at hs
      obtain ⟨_, rfl⟩ := hs
      exact ⟨Int.le_refl 0, fun z hz => by cases hz; exact p3⟩
  · simp; omega
end SP

namespace SP
open PySem PySem.Spec L2 DL LC
/-! ### how many points -/
theorem nd_len : ∀ {l S : List Int}, l.Nodup → (∀ x ∈ l, x ∈ S) → l.length ≤ S.length
  | [], S, _, _ => by simp
  | x :: l, S, h, hs => by
    have hx := hs x List.mem_cons_self
    have ih := nd_len (l := l) (S := S.erase x) (List.nodup_cons.mp h).2 fun y hy => by
      have ne : y ≠ x := fun e => (List.nodup_cons.mp h).1 (e ▸ hy)
      exact (List.mem_erase_of_ne ne).mpr (hs y (List.mem_cons_of_mem _ hy))
    rw [List.length_erase_of_mem hx] at ih
    have : 0 < S.length := List.length_pos_of_mem hx
    simp; omega
theorem up_nd {l : List Int} (h : Up l) : l.Nodup := h.imp fun h => by omega
theorem up_len {l S : List Int} (h : Up l) (hs : ∀ x ∈ l, x ∈ S) : l.length ≤ S.length := nd_len (up_nd h) hs
theorem flat_len : ∀ l : List Sq, (flat l).length ≤ 2 * l.length
  | [] => by simp [flat]
  | (a, none) :: l => by have := flat_len l; simp [flat]; omega
  | (a, some b) :: l => by have := flat_len l; simp [flat]; omega
/-- the turning points of a row -/
abbrev rowT (l : List Sq) : List Int := l.foldl addS []
theorem row_in {l : List Sq} (h : ∀ s ∈ l, okS s) {x : Int} (hx : x ∈ rowT l) : x ∈ flat l := by
  have t := row_tp h
  exact wi_ch (t.ch x |>.mp hx)
theorem pts_few {l : List Sq} {S : List Int} (h0 : (0 : Int) ∈ S) (h : ∀ x ∈ flat l, x ∈ S) : (pts l).length ≤ S.length := up_len (pts_up l) fun x hx => by
  rcases pts_mem.mp hx with rfl | hx
  · exact h0
  · exact h x hx
/-! ### the rows -/
def aS (sc b c : Slot) (st : List Ob) : S := ⟨[sc, .imm (.loc 0), b, c, .emp, .emp, .emp, .emp, .emp, .emp, .emp, .emp, .emp, .emp, .emp, .emp, .emp], st⟩
theorem rw_body {fs : Fn} {sc : Slot} {b x k : D} {st st' : List Ob} (h : fs [.loc 0, b] st = .ok x st') : mCall fs (mCons (mVar 1) (mCons (mVar 2) mNil)) ((aS sc (.imm b) .emp st).puts [(15, k)]) = .ok x ((aS sc (.imm b) .emp st').puts [(15, k)]) := by
  simp [aS, S.puts, S.put, mCall, mCons, mNil, mVar, bnd, DL.ret, h, outR]
theorem un_rows {Q : List Sq → Prop} : ∀ {zs : List D}, (∀ z ∈ zs, ∃ l, Q l ∧ z = .lst (l.map eD)) → ∃ ls : List (List Sq), zs = ls.map (fun l => .lst (l.map eD)) ∧ ∀ l ∈ ls, Q l
  | [], _ => ⟨[], rfl, fun _ h => by simp at h⟩
  | z :: zs, h => by
    obtain ⟨s, q, rfl⟩ := h z List.mem_cons_self
    obtain ⟨l, rfl, k⟩ := un_rows fun y hy => h y (List.mem_cons_of_mem _ hy)
    exact ⟨s :: l, rfl, fun y hy => (List.mem_cons.mp hy).elim (fun e => e ▸ q) (k y)⟩
def okR (l : List Sq) : Prop := (∀ s ∈ l, okS s) ∧ l.length ≤ 8
abbrev rD (l : List Sq) : D := .lst (l.map eD)
theorem rng_three (s : S) : mRng rng1 (mCons (mC (.int 3)) mNil) s = .ok [.int 0, .int 1, .int 2] s := by
  have : rng1 [.int 3] = some [.int 0, .int 1, .int 2] := by simp [rng1, intsD, List.range, List.range.loop]
  simp [mRng, mCons, mNil, mC, bnd, DL.ret, this]
theorem rows_eq {B : Nat} {rs st : List Ob} {b : Int} {sc : Slot} (hsc : ∃ d, sc = .imm d) (h : PenT B rs st) (hB : B + 90 < 2 ^ 30) (hb : 0 ≤ b) :
    ∃ (l1 l2 l3 : List Sq) (st' : List Ob), mOwn 3 (mLc (mRng rng1 (mCons (mC (.int 3)) mNil)) (gNm 15) mYes (mCall f__law_stretches (mCons (mVar 1) (mCons (mVar 2) mNil))) [15]) (aS sc (.imm (.int b)) .emp st) = .ok .nx (aS sc (.imm (.int b)) (.own [rD l1, rD l2, rD l3]) st') ∧ okR l1 ∧ okR l2 ∧ okR l3 ∧ PenT (B + 90) rs st' := by
  obtain ⟨d0, rfl⟩ := hsc
  obtain ⟨zs, s', c1, c2, c3, s2, rfl, t2⟩ := lc_inv (it := mRng rng1 (mCons (mC (.int 3)) mNil)) (g := gNm 15) (m := mCall f__law_stretches (mCons (mVar 1) (mCons (mVar 2) mNil))) (vs := [15]) (s0 := aS (.imm d0) (.imm (.int b)) .emp st) (s := aS (.imm d0) (.imm (.int b)) .emp st)
    (I := fun n s => ∃ st, s = aS (.imm d0) (.imm (.int b)) .emp st ∧ PenT (B + 30 * n) rs st) (Q := fun z => ∃ l : List Sq, okR l ∧ z = .lst (l.map eD)) (N := 3) (fun n s d hn ⟨st, hs, hp⟩ => by
      subst hs
      obtain ⟨l, st', e, o, ll, p⟩ := strs_eq (b := b) hp (by omega) hb
      refine ⟨[(15, d)], rD l, _, rfl, rw_body (k := d) e, rfl, ⟨l, ⟨o, ll⟩, rfl⟩, st', rfl, ?_⟩
      have : B + 30 * (n + 1) = B + 30 * n + 30 := by omega
      rw [this]; exact p) (rng_three _) rfl ⟨st, rfl, h⟩ (by simp) (by simp)
  obtain ⟨ls, rfl, q⟩ := un_rows c3
  simp at c2
  match ls, c2, q with
  | [l1, l2, l3], _, q =>
    refine ⟨l1, l2, l3, s2, ?_, q l1 (by simp), q l2 (by simp), q l3 (by simp), t2⟩
    simp only [mOwn, bnd, c1]
    rfl
/-! ### the spans of the rows -/
theorem span_new {l : List Sq} {st : List Ob} (h : okR l) : f_Span___init__ [.loc st.length, rD l] (st ++ [.ins "Span" []]) = .ok .non (st ++ [spO (pD (rowT l))]) := by
  have e := init_eq (n := st.length) (d := rD l) (l := l) (fs := []) (st := st ++ [.ins "Span" []]) (.inr ⟨_, rfl⟩) rfl h.1 (by have := h.2; omega) (by simp) (by simp)
  rw [e]
  simp [putFD]
theorem sp_body {fi : Fn} {sc b c : Slot} {x : D} {st st' : List Ob} (h : fi [.loc st.length, x] (st ++ [.ins "Span" []]) = .ok .non st') : mMake "Span" fi (mCons (mVar 16) mNil) ((aS sc b c st).puts [(16, x)]) = .ok (.loc st.length) ((aS sc b c st').puts [(16, x)]) := by
  simp [aS, S.puts, S.put, mMake, mCons, mNil, mVar, bnd, DL.ret, h]
theorem un_body {fu : Fn} {sc b c : Slot} {x z : D} {st : List Ob} (h : fu [x] st = .ok z st) : mCall fu (mCons (mVar 16) mNil) ((aS sc b c st).puts [(16, x)]) = .ok z ((aS sc b c st).puts [(16, x)]) := by
  simp [aS, S.puts, S.put, mCall, mCons, mNil, mVar, bnd, DL.ret, h, outR]
theorem par_gen {C1 C2 : MA} {us vs : List D} {s s1 s2 : S} (h1 : C1 s = .ok us s1) (h2 : C2 s1 = .ok vs s2) : mParFF 4 5 C1 C2 s = .ok .nx ((s2.put 4 (.own us)).put 5 (.own vs)) := by
  simp [mParFF, bnd, h1, h2]
theorem it_own {sc b : Slot} {us : List D} {st : List Ob} : mIt (mVar 3) (aS sc b (.own us) st) = .ok us (aS sc b (.imm (.lst us)) st) := by
  simp [mIt, mVar, aS, bnd, S.put, itD]
theorem it_imm {sc b : Slot} {us : List D} {st : List Ob} : mIt (mVar 3) (aS sc b (.imm (.lst us)) st) = .ok us (aS sc b (.imm (.lst us)) st) := by
  simp [mIt, mVar, aS, bnd, itD]
theorem lc_three {it : MA} {m : ME} {d0 b0 : D} {c : Slot} {r1 r2 r3 z1 z2 z3 u : D} {st st1 st2 st3 : List Ob} (hit : it (aS (.imm d0) (.imm b0) c st) = .ok [r1, r2, r3] (aS (.imm d0) (.imm b0) (.imm u) st))
    (h1 : m ((aS (.imm d0) (.imm b0) (.imm u) st).puts [(16, r1)]) = .ok z1 ((aS (.imm d0) (.imm b0) (.imm u) st1).puts [(16, r1)]))
    (h2 : m ((aS (.imm d0) (.imm b0) (.imm u) st1).puts [(16, r2)]) = .ok z2 ((aS (.imm d0) (.imm b0) (.imm u) st2).puts [(16, r2)]))
    (h3 : m ((aS (.imm d0) (.imm b0) (.imm u) st2).puts [(16, r3)]) = .ok z3 ((aS (.imm d0) (.imm b0) (.imm u) st3).puts [(16, r3)])) :
    mLc it (gNm 16) mYes m [16] (aS (.imm d0) (.imm b0) c st) = .ok [z1, z2, z3] (aS (.imm d0) (.imm b0) (.imm u) st3) := by
  have w : ∀ (d : D) (st : List Ob), wipeS ((aS (.imm d0) (.imm b0) (.imm u) st).puts [(16, d)]) [16] = aS (.imm d0) (.imm b0) (.imm u) st := fun d st => rfl
  have w0 : ∀ (st : List Ob), wipeS (aS (.imm d0) (.imm b0) (.imm u) st) [16] = aS (.imm d0) (.imm b0) (.imm u) st := fun st => rfl
  have x0 : ∀ (st : List Ob), noX (aS (.imm d0) (.imm b0) (.imm u) st) = true := fun st => rfl
  have x1 : ∀ (d : D) (st : List Ob), noX ((aS (.imm d0) (.imm b0) (.imm u) st).puts [(16, d)]) = true := fun d st => rfl
  simp only [mLc, bnd, hit, x0, if_true, w0]
  rw [lcs_one (l := [(16, r1)]) rfl h1 (x1 _ _) (by simp), w, lcs_one (l := [(16, r2)]) rfl h2 (x1 _ _) (by simp), w, lcs_one (l := [(16, r3)]) rfl h3 (x1 _ _) (by simp), w]
  rfl
theorem row_law {l : List Sq} {st : List Ob} (h : okR l) : f__law_united [rD l] st = .ok (pD (rowT l)) st := by
  have fl := flat_len l
  have h2 := h.2
  have e := united_eq (d := rD l) (l := l) (st := st) rfl (by omega) (by
    have := pts_few (l := l) (S := 0 :: flat l) List.mem_cons_self (fun x hx => List.mem_cons_of_mem _ hx)
    simp at this
    omega)
  rw [law_row h.1] at e
  exact e
theorem spans_eq {d0 b0 : D} {l1 l2 l3 : List Sq} {p : Ob} (h1 : okR l1) (h2 : okR l2) (h3 : okR l3) :
    mParFF 4 5 (mLc (mIt (mVar 3)) (gNm 16) mYes (mMake "Span" f_Span___init__ (mCons (mVar 16) mNil)) [16]) (mLc (mIt (mVar 3)) (gNm 16) mYes (mCall f__law_united (mCons (mVar 16) mNil)) [16]) (aS (.imm d0) (.imm b0) (.own [rD l1, rD l2, rD l3]) [p]) =
      .ok .nx (((aS (.imm d0) (.imm b0) (.imm (.lst [rD l1, rD l2, rD l3])) [p, spO (pD (rowT l1)), spO (pD (rowT l2)), spO (pD (rowT l3))]).put 4 (.own [.loc 1, .loc 2, .loc 3])).put 5 (.own [pD (rowT l1), pD (rowT l2), pD (rowT l3)])) :=
  par_gen (lc_three it_own (sp_body (st := [p]) (span_new h1)) (sp_body (st := [p] ++ [spO (pD (rowT l1))]) (span_new h2)) (sp_body (st := [p] ++ [spO (pD (rowT l1))] ++ [spO (pD (rowT l2))]) (span_new h3)))
    (lc_three it_imm (un_body (row_law h1)) (un_body (row_law h2)) (un_body (row_law h3)))
end SP

namespace SP
open PySem PySem.Spec L2 DL LC
/-! ### the steps of the law's loop -/
structure E where
  sc : Slot
  b : Slot
  r : Slot
  a6 : Slot
  a12 : Slot
  a13 : Slot
  a14 : Slot
def oS (e : E) (us vs : List D) (a7 a8 a9 a10 a11 : Slot) (st : List Ob) : S := ⟨[e.sc, .imm (.loc 0), e.b, e.r, .own us, .own vs, e.a6, a7, a8, a9, a10, a11, e.a12, e.a13, e.a14, .emp, .emp], st⟩
variable {e : E} {us vs : List D} {a7 a8 a9 a10 a11 : Slot} {st st' s1 s2 s3 : List Ob}
theorem o_draw {fd : Fn} {i j w : Int} {a7 a8 a9 a10 a11 : Slot} (h1 : fd [.loc 0, .int us.length] st = .ok (.int i) s1) (h2 : fd [.loc 0, .int us.length] s1 = .ok (.int j) s2) (h3 : fd [.loc 0, .int 5] s2 = .ok (.int w) s3) :
    mPar3 7 8 9 (mCons (mCall fd (mCons (mVar 1) (mCons (mUn fLen (mLook 4)) mNil))) (mCons (mCall fd (mCons (mVar 1) (mCons (mUn fLen (mLook 4)) mNil))) (mCons (mCall fd (mCons (mVar 1) (mCons (mC (.int 5)) mNil))) mNil))) (oS e us vs a7 a8 a9 a10 a11 st) = .ok .nx (oS e us vs (.imm (.int i)) (.imm (.int j)) (.imm (.int w)) a10 a11 s3) := by
  simp [oS, mPar3, mCons, mNil, mCall, mVar, mUn, fLen, itD, mLook, cur, mC, bnd, DL.ret, lift, h1, h2, h3, outR, S.put]
theorem o_pick {i j : D} {x y : D} (h1 : ixD (.lst us) i = some x) (h2 : ixD (.lst us) j = some y) : mPar 10 11 (mCons (mIxN 4 (mVar 7)) (mCons (mIxN 4 (mVar 8)) mNil)) (oS e us vs (.imm i) (.imm j) a9 a10 a11 st) = .ok .nx (oS e us vs (.imm i) (.imm j) a9 (.imm x) (.imm y) st) := by
  simp [oS, mPar, mCons, mNil, mIxN, mIxV, cur, mVar, bnd, DL.ret, lift, h1, h2, S.put]
theorem o_if {w c : Int} {A B : MS} : mIfS (mBl (mBin fEq (mVar 9) (mC (.int c)))) A B (oS e us vs a7 a8 (.imm (.int w)) a10 a11 st) = if w = c then A (oS e us vs a7 a8 (.imm (.int w)) a10 a11 st) else B (oS e us vs a7 a8 (.imm (.int w)) a10 a11 st) := by
  by_cases h : w = c <;> simp [oS, mIfS, mBl, mBin, mVar, mC, bnd, DL.ret, lift, eq_int, h, optB, isBl]
theorem o_lt {w c : Int} {A B : MS} : mIfS (mBl (mBin iLt (mVar 9) (mC (.int c)))) A B (oS e us vs a7 a8 (.imm (.int w)) a10 a11 st) = if w < c then A (oS e us vs a7 a8 (.imm (.int w)) a10 a11 st) else B (oS e us vs a7 a8 (.imm (.int w)) a10 a11 st) := by
  by_cases h : w < c <;> simp [oS, mIfS, mBl, mBin, mVar, mC, bnd, DL.ret, lift, iLt, intF, h, optB, isBl]
theorem o_few {c : Int} {A B : MS} : mIfS (mBl (mBin iLt (mUn fLen (mLook 4)) (mC (.int c)))) A B (oS e us vs a7 a8 a9 a10 a11 st) = if (us.length : Int) < c then A (oS e us vs a7 a8 a9 a10 a11 st) else B (oS e us vs a7 a8 a9 a10 a11 st) := by
  by_cases h : (us.length : Int) < c <;> simp [oS, mIfS, mBl, mBin, mUn, fLen, itD, mLook, cur, mC, bnd, DL.ret, lift, iLt, intF, h, optB, isBl]
theorem o_aug {fn : Fn} {x : Nat} {y a : D} (hx : st[x]? = some (spO a)) (h : fn [.loc x, y] st = .ok (.loc x) st') : mAugO 10 "Span" fn (mVar 11) (oS e us vs a7 a8 a9 (.imm (.loc x)) (.imm y) st) = .ok .nx (oS e us vs a7 a8 a9 (.imm (.loc x)) (.imm y) st') := by
  simp [oS, mAugO, mVar, bnd, insAt, hx, h, S.put]
theorem o_set {fm : Fn} {i j : Int} {w a b c : D} {n : Nat} (h1 : ixD (.lst vs) (.int i) = some a) (h2 : ixD (.lst vs) (.int j) = some b) (h3 : fm [a, b, w] st = .ok c st) (hn : ixN vs.length i = some n) : mSetIx 5 (mVar 7) (mCall fm (mCons (mIxN 5 (mVar 7)) (mCons (mIxN 5 (mVar 8)) (mCons (mVar 9) mNil)))) (oS e us vs (.imm (.int i)) (.imm (.int j)) (.imm w) a10 a11 st) = .ok .nx (oS e us (vs.set n c) (.imm (.int i)) (.imm (.int j)) (.imm w) a10 a11 st) := by
  simp [oS, mSetIx, mCall, mCons, mNil, mIxN, mIxV, cur, mVar, bnd, DL.ret, lift, h1, h2, h3, outR, hn, S.put]
theorem o_is {fs : Fn} {x c : D} {i : D} (h1 : ixD (.lst vs) i = some c) (h2 : fs [x, c] st = .ok (.bl true) st) : mIfS (mNotT (mTru (mCall fs (mCons (mVar 10) (mCons (mIxN 5 (mVar 7)) mNil))))) (mRet (mC (.bl false))) mPass (oS e us vs (.imm i) a8 a9 (.imm x) a11 st) = .ok .nx (oS e us vs (.imm i) a8 a9 (.imm x) a11 st) := by
  simp [oS, mIfS, mNotT, mTru, mCall, mCons, mNil, mVar, mIxN, mIxV, cur, bnd, DL.ret, lift, h1, h2, outR, optB, tru, mPass]
/-! new spans -/
theorem o_or {fo fx fv : Fn} {x y : Nat} {a b : D} {z : D} {w : Int} (hw : w = 3) (hx : st[x]? = some (spO a)) (hy : st[y]? = some (spO b)) (h : fo [.loc x, .loc y] st = .ok z st') : mSet 12 (mIf (mBl (mBin fEq (mVar 9) (mC (.int 3)))) (mOp2 "Span" fo (mVar 10) (mVar 11)) (mOp1 "Span" fv (mOp2 "Span" fx (mVar 10) (mVar 11)))) (oS e us vs a7 a8 (.imm (.int w)) (.imm (.loc x)) (.imm (.loc y)) st) = .ok .nx (oS { e with a12 := .imm z } us vs a7 a8 (.imm (.int w)) (.imm (.loc x)) (.imm (.loc y)) st') := by
  simp [oS, mSet, mIf, mBl, mBin, mVar, mC, bnd, DL.ret, lift, eq_int, hw, optB, isBl, mOp2, insAt, hx, hy, h, outR, S.put]
theorem o_nx {fo fx fv : Fn} {x y u : Nat} {a b c : D} {z : D} {w : Int} (hw : ¬ w = 3) (hx : st[x]? = some (spO a)) (hy : st[y]? = some (spO b)) (h : fx [.loc x, .loc y] st = .ok (.loc u) s1) (hu : s1[u]? = some (spO c)) (h2 : fv [.loc u] s1 = .ok z st') : mSet 12 (mIf (mBl (mBin fEq (mVar 9) (mC (.int 3)))) (mOp2 "Span" fo (mVar 10) (mVar 11)) (mOp1 "Span" fv (mOp2 "Span" fx (mVar 10) (mVar 11)))) (oS e us vs a7 a8 (.imm (.int w)) (.imm (.loc x)) (.imm (.loc y)) st) = .ok .nx (oS { e with a12 := .imm z } us vs a7 a8 (.imm (.int w)) (.imm (.loc x)) (.imm (.loc y)) st') := by
  simp [oS, mSet, mIf, mBl, mBin, mVar, mC, bnd, DL.ret, lift, eq_int, hw, optB, isBl, mOp1, mOp2, insAt, hx, hy, h, outR, hu, h2, S.put]
theorem o_app {z : D} (hl : us.length < 1000) : mExpr (mApp 4 (mVar 12)) (oS { e with a12 := .imm z } us vs a7 a8 a9 a10 a11 st) = .ok .nx (oS { e with a12 := .imm z } (us ++ [z]) vs a7 a8 a9 a10 a11 st) := by
  have : few (us.length + 1) := by unfold few; omega
  simp [oS, mExpr, mApp, mVar, bnd, DL.ret, this, S.put]
theorem o_due {fm : Fn} {i j : D} {w : Int} {a b c : D} (h1 : ixD (.lst vs) i = some a) (h2 : ixD (.lst vs) j = some b) (h3 : fm [a, b, .int (if w = 3 then 0 else 3)] st = .ok c st) : mSet 13 (mCall fm (mCons (mIxN 5 (mVar 7)) (mCons (mIxN 5 (mVar 8)) (mCons (mIf (mBl (mBin fEq (mVar 9) (mC (.int 3)))) (mC (.int 0)) (mC (.int 3))) mNil)))) (oS e us vs (.imm i) (.imm j) (.imm (.int w)) a10 a11 st) = .ok .nx (oS { e with a13 := .imm c } us vs (.imm i) (.imm j) (.imm (.int w)) a10 a11 st) := by
  by_cases hw : w = 3
  · rw [if_pos hw] at h3
    simp [oS, mSet, mCall, mCons, mNil, mIxN, mIxV, cur, mVar, mIf, mBl, mBin, mC, bnd, DL.ret, lift, eq_int, hw, optB, isBl, h1, h2, h3, outR, S.put]
  · rw [if_neg hw] at h3
    simp [oS, mSet, mCall, mCons, mNil, mIxN, mIxV, cur, mVar, mIf, mBl, mBin, mC, bnd, DL.ret, lift, eq_int, hw, optB, isBl, h1, h2, h3, outR, S.put]
theorem o_own {fm : Fn} {w : Int} {c d : D} (hd : (w = 3 ∧ d = c) ∨ (¬ w = 3 ∧ fm [.tup [.tup [.int 0, .non]], c, .int 2] st = .ok d st)) (hl : vs.length < 1000) : mExpr (mApp 5 (mIf (mBl (mBin fEq (mVar 9) (mC (.int 3)))) (mVar 13) (mCall fm (mCons (mTup (mCons (mTup (mCons (mC (.int 0)) (mCons (mC .non) mNil))) mNil)) (mCons (mVar 13) (mCons (mC (.int 2)) mNil)))))) (oS { e with a13 := .imm c } us vs a7 a8 (.imm (.int w)) a10 a11 st) = .ok .nx (oS { e with a13 := .imm c } us (vs ++ [d]) a7 a8 (.imm (.int w)) a10 a11 st) := by
  have f : few (vs.length + 1) := by unfold few; omega
  have f1 : few 1 := by unfold few; omega
  have f2 : few 2 := by unfold few; omega
  rcases hd with ⟨hw, rfl⟩ | ⟨hw, h⟩
  · simp [oS, mExpr, mApp, mIf, mBl, mBin, mVar, mC, bnd, DL.ret, lift, eq_int, hw, optB, isBl, f, S.put]
  · simp [oS, mExpr, mApp, mIf, mBl, mBin, mVar, mC, bnd, DL.ret, lift, eq_int, hw, optB, isBl, mCall, mCons, mNil, mTup, f1, f2, h, outR, f, S.put]
/-! all spans -/
theorem f_body {fs : Fn} {i x c : D} (h0 : ixD (.lst us) i = some x) (h1 : ixD (.lst vs) i = some c) (h2 : fs [x, c] st = .ok (.bl true) st) : mIfS (mNotT (mTru (mCall fs (mCons (mIxN 4 (mVar 14)) (mCons (mIxN 5 (mVar 14)) mNil))))) (mRet (mC (.bl false))) mPass (oS { e with a14 := .imm i } us vs a7 a8 a9 a10 a11 st) = .ok .nx (oS { e with a14 := .imm i } us vs a7 a8 a9 a10 a11 st) := by
  simp [oS, mIfS, mNotT, mTru, mCall, mCons, mNil, mVar, mIxN, mIxV, cur, bnd, DL.ret, lift, h0, h1, h2, outR, optB, tru, mPass]
theorem put14 (i : D) : (oS e us vs a7 a8 a9 a10 a11 st).puts [(14, i)] = oS { e with a14 := .imm i } us vs a7 a8 a9 a10 a11 st := rfl
theorem gnm {n : Nat} {d : D} : gNm n d = some [(n, d)] := rfl
theorem fo_nil {g : MG} {b : MS} {s : S} : fo g b [] s = .ok .nx s := rfl
theorem e14 : oS { e with a14 := e.a14 } us vs a7 a8 a9 a10 a11 st = oS e us vs a7 a8 a9 a10 a11 st := rfl
theorem f_loop {bd : MS} (is : List D) : ∀ (e : E), (∀ i ∈ is, ∀ e : E, bd (oS { e with a14 := .imm i } us vs a7 a8 a9 a10 a11 st) = .ok .nx (oS { e with a14 := .imm i } us vs a7 a8 a9 a10 a11 st)) → ∃ z, fo (gNm 14) bd is (oS e us vs a7 a8 a9 a10 a11 st) = .ok .nx (oS { e with a14 := z } us vs a7 a8 a9 a10 a11 st) := by
  induction is with
  | nil => exact fun e _ => ⟨e.a14, by rw [fo_nil, e14]⟩
  | cons i is ih =>
    intro e h
    obtain ⟨z, k⟩ := ih { e with a14 := .imm i } fun y hy => h y (List.mem_cons_of_mem _ hy)
    have b := h i List.mem_cons_self e
    rw [← put14] at b
    refine ⟨z, ?_⟩
    rw [fo_step gnm b, put14]
    exact k
theorem rng_nat {n : Nat} (h : n < 1000) : rng1 [.int n] = some (intsD 0 n) := by
  have : ∀ j : Int, -(2 ^ 62) ≤ j ∧ j < 2 ^ 62 → rng1 [.int j] = some (intsD 0 j.toNat) := fun j hj => by simp only [rng1]; rw [if_pos hj]
  rw [this n ⟨by omega, by omega⟩, Int.toNat_natCast]
theorem it_len {rg : List D → Option (List D)} {R : List D} (r : rg [.int us.length] = some R) : mRng rg (mCons (mUn fLen (mLook 4)) mNil) (oS e us vs a7 a8 a9 a10 a11 st) = .ok R (oS e us vs a7 a8 a9 a10 a11 st) := by
  simp [oS, mRng, mCons, mNil, mUn, fLen, itD, mLook, cur, bnd, DL.ret, lift, r]
theorem f_for {fs : Fn} (hl : us.length < 1000) (h : ∀ k, k < us.length → ∃ x c, ixD (.lst us) (.int k) = some x ∧ ixD (.lst vs) (.int k) = some c ∧ fs [x, c] st = .ok (.bl true) st) : ∃ z, mFor (mRng rng1 (mCons (mUn fLen (mLook 4)) mNil)) (gNm 14) (mIfS (mNotT (mTru (mCall fs (mCons (mIxN 4 (mVar 14)) (mCons (mIxN 5 (mVar 14)) mNil))))) (mRet (mC (.bl false))) mPass) (oS e us vs a7 a8 a9 a10 a11 st) = .ok .nx (oS { e with a14 := z } us vs a7 a8 a9 a10 a11 st) := by
  have r := rng_nat hl
  obtain ⟨z, k⟩ := f_loop (bd := mIfS (mNotT (mTru (mCall fs (mCons (mIxN 4 (mVar 14)) (mCons (mIxN 5 (mVar 14)) mNil))))) (mRet (mC (.bl false))) mPass) (us := us) (vs := vs) (st := st) (a7 := a7) (a8 := a8) (a9 := a9) (a10 := a10) (a11 := a11) (intsD 0 us.length) e fun i hi e => by
    rw [rg_eq] at hi
    obtain ⟨q, hq, rfl⟩ := List.mem_map.mp hi
    obtain ⟨q0, q1⟩ := rgI_mem.mp hq
    have := h q.toNat (by omega)
    rw [Int.toNat_of_nonneg q0] at this
    obtain ⟨x, c, h0, h1, h2⟩ := this
    exact f_body h0 h1 h2
  exact ⟨z, for_of (it_len r) k⟩
end SP

namespace SP
open PySem PySem.Spec L2 DL LC
/-! ### the invariant: spans in cells, and what they tell -/
abbrev Ls := List (Nat × List Int)
def lo (p : Nat × List Int) : D := .loc (p.1 + 1)
def wn (p : Nat × List Int) : D := pD p.2
structure Iv (S0 : List Int) (rs : List Ob) (L : Ls) : Prop where
  cell : ∀ (k : Nat) (p : Nat × List Int), L[k]? = some p → rs[p.1]? = some (spO (pD p.2))
  dif : ∀ (k1 k2 : Nat) (p1 p2 : Nat × List Int), L[k1]? = some p1 → L[k2]? = some p2 → p1.1 = p2.1 → k1 = k2
  tp : ∀ p ∈ L, ∃ f, Tp p.2 f
  sub : ∀ p ∈ L, ∀ x ∈ p.2, x ∈ S0
  few : L.length ≤ 7
  ne : 0 < L.length
  z : (0 : Int) ∈ S0
  s : S0.length ≤ 49
section
variable {S0 : List Int} {rs st : List Ob} {L : Ls} {B : Nat}
theorem Iv.len (h : Iv S0 rs L) {p : Nat × List Int} (hp : p ∈ L) : p.2.length ≤ 49 := by
  obtain ⟨f, t⟩ := h.tp p hp
  exact Nat.le_trans (up_len t.up (h.sub p hp)) h.s
theorem Iv.set (h : Iv S0 rs L) {i : Nat} {p : Nat × List Int} {t : List Int} {f : Int → Bool} (hi : L[i]? = some p) (ht : Tp t f) (hs : ∀ x ∈ t, x ∈ S0) : Iv S0 (rs.set p.1 (spO (pD t))) (L.set i (p.1, t)) where
  cell := fun k q hq => by
    rcases set_get hq with ⟨rfl, rfl⟩ | ⟨hk, hq⟩
    · have := h.cell _ _ hi
      exact List.getElem?_set_self (List.getElem?_eq_some_iff.mp this).1
    · have ne : p.1 ≠ q.1 := fun e => hk (h.dif _ _ _ _ hi hq e).symm
      rw [List.getElem?_set_ne ne]
      exact h.cell _ _ hq
  dif := fun k1 k2 p1 p2 h1 h2 e => by
    rcases set_get h1 with ⟨rfl, rfl⟩ | ⟨k1n, g1⟩ <;> rcases set_get h2 with ⟨rfl, rfl⟩ | ⟨k2n, g2⟩
    · rfl
    · exact h.dif _ _ _ _ hi g2 e
    · exact h.dif _ _ _ _ g1 hi e
    · exact h.dif _ _ _ _ g1 g2 e
  tp := fun q hq => by
    rcases List.mem_or_eq_of_mem_set hq with hq | rfl
    · exact h.tp q hq
    · exact ⟨f, ht⟩
  sub := fun q hq => by
    rcases List.mem_or_eq_of_mem_set hq with hq | rfl
    · exact h.sub q hq
    · exact hs
  few := by rw [List.length_set]; exact h.few
  ne := by rw [List.length_set]; exact h.ne
  z := h.z
  s := h.s
theorem Iv.app (h : Iv S0 rs L) {more : List Ob} {m : Nat} {t : List Int} {f : Int → Bool} (hm : rs.length ≤ m) (hc : (rs ++ more)[m]? = some (spO (pD t))) (ht : Tp t f) (hs : ∀ x ∈ t, x ∈ S0) (hl : L.length < 7) : Iv S0 (rs ++ more) (L ++ [(m, t)]) := by
  have old : ∀ {k : Nat} {p : Nat × List Int}, L[k]? = some p → p.1 < rs.length := fun {k p} hk => (List.getElem?_eq_some_iff.mp (h.cell _ _ hk)).1
  have spl : ∀ {k : Nat} {p : Nat × List Int}, (L ++ [(m, t)])[k]? = some p → L[k]? = some p ∨ (k = L.length ∧ p = (m, t)) := fun {k p} hk => by
    by_cases c : k < L.length
    · rw [List.getElem?_append_left c] at hk; exact .inl hk
    · rw [List.getElem?_append_right (by omega)] at hk
      have : k - L.length = 0 := by
        have := (List.getElem?_eq_some_iff.mp hk).1
        simp at this; omega
      rw [this] at hk
      cases hk
      exact .inr ⟨by omega, rfl⟩
  refine ⟨fun k p hk => ?_, fun k1 k2 p1 p2 h1 h2 e => ?_, fun q hq => ?_, fun q hq => ?_, by simp; omega, by simp, h.z, h.s⟩
  · rcases spl hk with hk | ⟨_, rfl⟩
    · rw [List.getElem?_append_left (old hk)]; exact h.cell _ _ hk
    · exact hc
  · rcases spl h1 with h1 | ⟨rfl, rfl⟩ <;> rcases spl h2 with h2 | ⟨rfl, rfl⟩
    · exact h.dif _ _ _ _ h1 h2 e
    · have := old h1; simp at e; omega
    · have := old h2; simp at e; omega
    · rfl
  · rcases List.mem_append.mp hq with hq | hq
    · exact h.tp q hq
    · cases List.mem_singleton.mp hq; exact ⟨f, ht⟩
  · rcases List.mem_append.mp hq with hq | hq
    · exact h.sub q hq
    · cases List.mem_singleton.mp hq; exact hs
theorem PenT.at (h : PenT B rs st) (n : Nat) : st[n + 1]? = rs[n]? := by
  obtain ⟨cs, b, r, rfl, _⟩ := h
  rfl
theorem PenT.set (h : PenT B rs st) (n : Nat) (x : Ob) : PenT B (rs.set n x) (st.set (n + 1) x) := by
  obtain ⟨cs, b, r, rfl, h2⟩ := h
  exact ⟨cs, b, r, rfl, h2⟩
theorem PenT.app (h : PenT B rs st) (more : List Ob) : PenT B (rs ++ more) (st ++ more) := by
  obtain ⟨cs, b, r, rfl, h2⟩ := h
  exact ⟨cs, b, r, rfl, h2⟩
theorem PenT.len (h : PenT B rs st) : st.length = rs.length + 1 := by
  obtain ⟨cs, b, r, rfl, h2⟩ := h
  rfl
/-! ### the law's mix -/
theorem kw0 : kw 0 = kOr := by funext u v; simp [kw, kOr]
theorem kw1 : kw 1 = kAnd := by funext u v; simp [kw, kAnd]
theorem kw2 : kw 2 = kSub := by funext u v; simp [kw, kSub]
theorem kw3 : kw 3 = kXor := by funext u v; simp [kw, kXor]
theorem kwf (w : Int) : kw w false false = false := by
  unfold kw
  split
  · rfl
  · split
    · rfl
    · split <;> rfl
theorem mix_eq {t u : List Int} {f g : Int → Bool} {w : Int} (ht : Tp t f) (hu : Tp u g) (h0 : (0 : Int) ∈ S0) (hs : S0.length ≤ 49) (s1 : ∀ x ∈ t, x ∈ S0) (s2 : ∀ x ∈ u, x ∈ S0) : f__law_mixed_up [pD t, pD u, .int w] st = .ok (pD (cmb (kw w) t u)) st := by
  have l1 := Nat.le_trans (up_len ht.up s1) hs
  have l2 := Nat.le_trans (up_len hu.up s2) hs
  have p1 := pr_len t
  have p2 := pr_len u
  have e := mixed_eq (l1 := pr t) (l2 := pr u) (w := w) (st := st) (by omega) (by
    have := pts_few (l := pr t ++ pr u) (S := S0) h0 fun x hx => by
      rw [flat_app, flat_pr, flat_pr] at hx
      rcases List.mem_append.mp hx with hx | hx
      · exact s1 x hx
      · exact s2 x hx
    omega)
  rw [law_mix ht hu (kwf w)] at e
  exact e
theorem cmb_sub {k : Bool → Bool → Bool} {t u : List Int} {f g : Int → Bool} (ht : Tp t f) (hu : Tp u g) (s1 : ∀ x ∈ t, x ∈ S0) (s2 : ∀ x ∈ u, x ∈ S0) : ∀ x ∈ cmb k t u, x ∈ S0 := fun x hx => (cmb_in ht.up hu.up hx).elim (s1 x) (s2 x)
theorem ix_nat {ds : List D} {k : Nat} {d : D} (h : ds[k]? = some d) : ixD (.lst ds) (.int k) = some d := atI_nat h
theorem ixN_nat {n k : Nat} (h : k < n) : ixN n (k : Int) = some k := by
  unfold ixN
  rw [if_pos (by omega), if_pos (by omega)]
  simp
theorem lo_at {k : Nat} {p : Nat × List Int} (h : L[k]? = some p) : ixD (.lst (L.map lo)) (.int k) = some (.loc (p.1 + 1)) := ix_nat (by rw [List.getElem?_map, h]; rfl)
theorem wn_at {k : Nat} {p : Nat × List Int} (h : L[k]? = some p) : ixD (.lst (L.map wn)) (.int k) = some (pD p.2) := ix_nat (by rw [List.getElem?_map, h]; rfl)
theorem Iv.is (h : Iv S0 rs L) (hp : PenT B rs st) {k : Nat} {p : Nat × List Int} (hk : L[k]? = some p) : f__law_span_is [.loc (p.1 + 1), pD p.2] st = .ok (.bl true) st :=
  span_is (by rw [hp.at]; exact h.cell _ _ hk) (by have := h.len (List.mem_of_getElem? hk); omega)
theorem lo_set {i : Nat} {p : Nat × List Int} {t : List Int} (hi : L[i]? = some p) : (L.set i (p.1, t)).map lo = L.map lo := by
  rw [List.map_set]
  have hl : i < (L.map lo).length := by rw [List.length_map]; exact (List.getElem?_eq_some_iff.mp hi).1
  have e : lo (p.1, t) = (L.map lo)[i] := by
    have := (List.getElem?_eq_some_iff.mp hi).2
    simp [this, lo]
  rw [e, List.set_getElem_self]
theorem wn_set {i : Nat} {n : Nat} {t : List Int} : (L.set i (n, t)).map wn = (L.map wn).set i (pD t) := by
  rw [List.map_set]; rfl
end
end SP

namespace SP
open PySem PySem.Spec L2 DL LC
/-! ### one deed -/
noncomputable def g0 : MS := mIfS (mBl (mBin fEq (mVar 9) (mC (.int 0)))) (mAugO 10 "Span" f_Span___ior__ (mVar 11)) mPass
noncomputable def g1 : MS := mIfS (mBl (mBin fEq (mVar 9) (mC (.int 1)))) (mAugO 10 "Span" f_Span___iand__ (mVar 11)) mPass
noncomputable def g2 : MS := mIfS (mBl (mBin fEq (mVar 9) (mC (.int 2)))) (mAugO 10 "Span" f_Span___isub__ (mVar 11)) mPass
noncomputable def gA : MS := mSetIx 5 (mVar 7) (mCall f__law_mixed_up (mCons (mIxN 5 (mVar 7)) (mCons (mIxN 5 (mVar 8)) (mCons (mVar 9) mNil))))
noncomputable def gB : MS := (mSeq (mSet 12 (mIf (mBl (mBin fEq (mVar 9) (mC (.int 3)))) (mOp2 "Span" f_Span___or__ (mVar 10) (mVar 11)) (mOp1 "Span" f_Span___invert__ (mOp2 "Span" f_Span___xor__ (mVar 10) (mVar 11)))))
  (mSeq (mExpr (mApp 4 (mVar 12)))
  (mSeq (mSet 13 (mCall f__law_mixed_up (mCons (mIxN 5 (mVar 7)) (mCons (mIxN 5 (mVar 8)) (mCons (mIf (mBl (mBin fEq (mVar 9) (mC (.int 3)))) (mC (.int 0)) (mC (.int 3))) mNil)))))
  (mExpr (mApp 5 (mIf (mBl (mBin fEq (mVar 9) (mC (.int 3)))) (mVar 13) (mCall f__law_mixed_up (mCons (mTup (mCons (mTup (mCons (mC (.int 0)) (mCons (mC .non) mNil))) mNil)) (mCons (mVar 13) (mCons (mC (.int 2)) mNil))))))))))
noncomputable def gC : MS := mIfS (mBl (mBin iLt (mVar 9) (mC (.int 3)))) gA (mIfS (mBl (mBin iLt (mUn fLen (mLook 4)) (mC (.int 7)))) gB mPass)
section
variable {S0 : List Int} {rs st : List Ob} {L : Ls} {B : Nat} {e : E} {i j : Nat} {p q : Nat × List Int} {w : Int} {a10 a11 : Slot}
abbrev dS (e : E) (L : Ls) (i j : Nat) (w : Int) (p q : Nat × List Int) (st : List Ob) : S := oS e (L.map lo) (L.map wn) (.imm (.int i)) (.imm (.int j)) (.imm (.int w)) (.imm (lo p)) (.imm (lo q)) st
theorem no_aug {fn : Fn} {c : Int} (h : ¬ w = c) : mIfS (mBl (mBin fEq (mVar 9) (mC (.int c)))) (mAugO 10 "Span" fn (mVar 11)) mPass (dS e L i j w p q st) = .ok .nx (dS e L i j w p q st) := by
  rw [dS, o_if, if_neg h]; rfl
theorem yes_aug {fn : Fn} {c : Int} {st' : List Ob} (h : w = c) {a : D} (hx : st[p.1 + 1]? = some (spO a)) (k : fn [.loc (p.1 + 1), .loc (q.1 + 1)] st = .ok (.loc (p.1 + 1)) st') : mIfS (mBl (mBin fEq (mVar 9) (mC (.int c)))) (mAugO 10 "Span" fn (mVar 11)) mPass (dS e L i j w p q st) = .ok .nx (dS e L i j w p q st') := by
  rw [dS, o_if, if_pos h]; exact o_aug hx k
theorem three {w : Int} (w0 : 0 ≤ w) (w3 : w < 3) (iv : Iv S0 rs L) (hp : PenT B rs st) (hi : L[i]? = some p) (hj : L[j]? = some q) (R : MS) :
    mSeq g0 (mSeq g1 (mSeq g2 R)) (dS e L i j w p q st) = R (dS e L i j w p q (st.set (p.1 + 1) (spO (pD (cmb (kw w) p.2 q.2))))) := by
  obtain ⟨f, tf⟩ := iv.tp p (List.mem_of_getElem? hi)
  obtain ⟨g, tg⟩ := iv.tp q (List.mem_of_getElem? hj)
  have l1 := iv.len (List.mem_of_getElem? hi)
  have l2 := iv.len (List.mem_of_getElem? hj)
  have c1 : st[p.1 + 1]? = some (spO (pD p.2)) := by rw [hp.at]; exact iv.cell _ _ hi
  have c2 : st[q.1 + 1]? = some (spO (pD q.2)) := by rw [hp.at]; exact iv.cell _ _ hj
  rcases (show w = 0 ∨ w = 1 ∨ w = 2 by omega) with h | h | h
  · have e0 := ior_eq tf tg (by omega) (by omega) c1 c2
    rw [show kw w = kOr by rw [h, kw0]]
    rw [g0, seq_nx (yes_aug h c1 e0), g1, seq_nx (no_aug (by omega)), g2, seq_nx (no_aug (by omega))]
  · have e0 := iand_eq tf tg (by omega) (by omega) c1 c2
    rw [show kw w = kAnd by rw [h, kw1]]
    rw [g0, seq_nx (no_aug (by omega)), g1, seq_nx (yes_aug h c1 e0), g2, seq_nx (no_aug (by omega))]
  · have e0 := isub_eq tf tg (by omega) (by omega) c1 c2
    rw [show kw w = kSub by rw [h, kw2]]
    rw [g0, seq_nx (no_aug (by omega)), g1, seq_nx (no_aug (by omega)), g2, seq_nx (yes_aug h c1 e0)]
theorem mid_in (w0 : 0 ≤ w) (w3 : w < 3) (iv : Iv S0 rs L) (hp : PenT B rs st) (hi : L[i]? = some p) (hj : L[j]? = some q) (R : MS) :
    ∃ L' rs' st' p', mSeq g0 (mSeq g1 (mSeq g2 (mSeq gC R))) (dS e L i j w p q st) = R (dS e L' i j w p q st') ∧ Iv S0 rs' L' ∧ PenT B rs' st' ∧ L'[i]? = some p' ∧ p'.1 = p.1 := by
  obtain ⟨f, tf⟩ := iv.tp p (List.mem_of_getElem? hi)
  obtain ⟨g, tg⟩ := iv.tp q (List.mem_of_getElem? hj)
  have m1 := iv.sub p (List.mem_of_getElem? hi)
  have m2 := iv.sub q (List.mem_of_getElem? hj)
  have tc := cmb_tp (kwf w) tf tg
  have sb := cmb_sub (k := kw w) tf tg m1 m2
  have hl : i < L.length := (List.getElem?_eq_some_iff.mp hi).1
  have mx := mix_eq (st := st.set (p.1 + 1) (spO (pD (cmb (kw w) p.2 q.2)))) (w := w) tf tg iv.z iv.s m1 m2
  have a : gC (dS e L i j w p q (st.set (p.1 + 1) (spO (pD (cmb (kw w) p.2 q.2))))) = .ok .nx (dS e (L.set i (p.1, cmb (kw w) p.2 q.2)) i j w p q (st.set (p.1 + 1) (spO (pD (cmb (kw w) p.2 q.2))))) := by
    rw [gC, dS, o_lt, if_pos w3, gA, o_set (wn_at hi) (wn_at hj) mx (ixN_nat (by simpa using hl)), dS, lo_set hi, wn_set]
  refine ⟨L.set i (p.1, cmb (kw w) p.2 q.2), _, _, (p.1, cmb (kw w) p.2 q.2), ?_, iv.set hi tc sb, hp.set _ _, List.getElem?_set_self hl, rfl⟩
  rw [three w0 w3 iv hp hi hj, seq_nx a]
theorem mid_no (w3 : 3 ≤ w) (h7 : ¬ L.length < 7) (R : MS) : mSeq g0 (mSeq g1 (mSeq g2 (mSeq gC R))) (dS e L i j w p q st) = R (dS e L i j w p q st) := by
  have a : gC (dS e L i j w p q st) = .ok .nx (dS e L i j w p q st) := by
    rw [gC, dS, o_lt, if_neg (by omega), o_few, if_neg (by simp; omega)]; rfl
  rw [g0, seq_nx (no_aug (by omega)), g1, seq_nx (no_aug (by omega)), g2, seq_nx (no_aug (by omega)), seq_nx a]
theorem pD0 : pD [0] = .tup [.tup [.int 0, .non]] := rfl
theorem mid_new (w3 : 3 ≤ w) (h7 : L.length < 7) (iv : Iv S0 rs L) (hp : PenT B rs st) (hi : L[i]? = some p) (hj : L[j]? = some q) (R : MS) :
    ∃ e' L' rs' st', mSeq g0 (mSeq g1 (mSeq g2 (mSeq gC R))) (dS e L i j w p q st) = R (dS e' L' i j w p q st') ∧ Iv S0 rs' L' ∧ PenT B rs' st' ∧ L'[i]? = some p := by
  obtain ⟨f, tf⟩ := iv.tp p (List.mem_of_getElem? hi)
  obtain ⟨g, tg⟩ := iv.tp q (List.mem_of_getElem? hj)
  have m1 := iv.sub p (List.mem_of_getElem? hi)
  have m2 := iv.sub q (List.mem_of_getElem? hj)
  have l1 := iv.len (List.mem_of_getElem? hi)
  have l2 := iv.len (List.mem_of_getElem? hj)
  have hl : i < L.length := (List.getElem?_eq_some_iff.mp hi).1
  have c1 : st[p.1 + 1]? = some (spO (pD p.2)) := by rw [hp.at]; exact iv.cell _ _ hi
  have c2 : st[q.1 + 1]? = some (spO (pD q.2)) := by rw [hp.at]; exact iv.cell _ _ hj
  have sl := hp.len
  have pre : ∀ {s : S}, gB (dS e L i j w p q st) = .ok .nx s → mSeq g0 (mSeq g1 (mSeq g2 (mSeq gC R))) (dS e L i j w p q st) = R s := fun {s} h => by
    have a : gC (dS e L i j w p q st) = .ok .nx s := by
      rw [gC, dS, o_lt, if_neg (by omega), o_few, if_pos (by simp; omega)]; exact h
    rw [g0, seq_nx (no_aug (by omega)), g1, seq_nx (no_aug (by omega)), g2, seq_nx (no_aug (by omega)), seq_nx a]
  have gt : ∀ (m : Nat) (t : List Int), (L ++ [(m, t)])[i]? = some p := fun m t => by rw [List.getElem?_append_left hl]; exact hi
  have ml : ∀ (m : Nat) (t : List Int), L.map lo ++ [.loc (m + 1)] = (L ++ [(m, t)]).map lo := fun m t => by rw [List.map_append]; rfl
  have mw : ∀ (m : Nat) (t : List Int), L.map wn ++ [pD t] = (L ++ [(m, t)]).map wn := fun m t => by rw [List.map_append]; rfl
  by_cases hw : w = 3
  · have e0 := or_eq tf tg (by omega) (by omega) c1 c2
    have tc := cmb_tp (k := kOr) rfl tf tg
    have sb := cmb_sub (k := kOr) tf tg m1 m2
    generalize hZ : cmb kOr p.2 q.2 = Z at e0 tc sb
    have mx := mix_eq (st := st ++ [spO (pD Z)]) (w := if w = 3 then 0 else 3) tf tg iv.z iv.s m1 m2
    rw [show kw (if w = 3 then 0 else 3) = kOr by rw [if_pos hw, kw0], hZ] at mx
    rw [sl] at e0
    refine ⟨{ e with a12 := .imm (.loc (rs.length + 1)), a13 := .imm (pD Z) }, L ++ [(rs.length, Z)], rs ++ [spO (pD Z)], st ++ [spO (pD Z)], pre ?_, iv.app (Nat.le_refl _) (by simp) tc sb h7, hp.app _, gt _ _⟩
    rw [gB, dS, lo, lo, seq_nx (o_or hw c1 c2 e0), seq_nx (o_app (by simp; omega)), seq_nx (o_due (wn_at hi) (wn_at hj) mx), o_own (e := { e with a12 := .imm (.loc (rs.length + 1)) }) (.inl ⟨hw, rfl⟩) (by simp; omega), dS, lo, lo, ml, mw]
  · have e0 := xor_eq tf tg (by omega) (by omega) c1 c2
    have tx := cmb_tp (k := kXor) rfl tf tg
    have sx := cmb_sub (k := kXor) tf tg m1 m2
    generalize hX : cmb kXor p.2 q.2 = X at e0 tx sx
    have lx : X.length ≤ 49 := Nat.le_trans (up_len tx.up sx) iv.s
    rw [sl] at e0
    have cx : (st ++ [spO (pD X)])[rs.length + 1]? = some (spO (pD X)) := by rw [← sl]; simp
    have e1 := inv_eq tx (by omega) cx
    have tz := cmb_tp (k := kSub) rfl tp_all tx
    have sz := cmb_sub (k := kSub) tp_all tx (fun x hx => by rw [List.mem_singleton.mp hx]; exact iv.z) sx
    have mx := mix_eq (st := st ++ [spO (pD X)] ++ [spO (pD (cmb kSub [0] X))]) (w := if w = 3 then 0 else 3) tf tg iv.z iv.s m1 m2
    rw [show kw (if w = 3 then 0 else 3) = kXor by rw [if_neg hw, kw3], hX] at mx
    have my := mix_eq (st := st ++ [spO (pD X)] ++ [spO (pD (cmb kSub [0] X))]) (w := 2) tp_all tx iv.z iv.s (fun x hx => by rw [List.mem_singleton.mp hx]; exact iv.z) sx
    rw [kw2] at my
    generalize cmb kSub [0] X = Z at e1 tz sz mx my
    rw [pD0] at my
    have sl2 : (st ++ [spO (pD X)]).length = rs.length + 1 + 1 := by simp [sl]
    rw [sl2] at e1
    refine ⟨{ e with a12 := .imm (.loc (rs.length + 1 + 1)), a13 := .imm (pD X) }, L ++ [(rs.length + 1, Z)], rs ++ ([spO (pD X)] ++ [spO (pD Z)]), st ++ [spO (pD X)] ++ [spO (pD Z)], pre ?_, iv.app (by omega) (by simp) tz sz h7, by rw [List.append_assoc]; exact hp.app _, gt _ _⟩
    rw [gB, dS, lo, lo, seq_nx (o_nx hw c1 c2 e0 cx e1), seq_nx (o_app (by simp; omega)), seq_nx (o_due (wn_at hi) (wn_at hj) mx), o_own (e := { e with a12 := .imm (.loc (rs.length + 1 + 1)) }) (.inr ⟨hw, my⟩) (by simp; omega), dS, lo, lo, ml, mw]
end
end SP

namespace SP
open PySem PySem.Spec L2 DL LC
noncomputable def gD : MS := mPar3 7 8 9 (mCons (mCall f__law_draw (mCons (mVar 1) (mCons (mUn fLen (mLook 4)) mNil))) (mCons (mCall f__law_draw (mCons (mVar 1) (mCons (mUn fLen (mLook 4)) mNil))) (mCons (mCall f__law_draw (mCons (mVar 1) (mCons (mC (.int 5)) mNil))) mNil)))
def gP : MS := mPar 10 11 (mCons (mIxN 4 (mVar 7)) (mCons (mIxN 4 (mVar 8)) mNil))
noncomputable def gI1 : MS := mIfS (mNotT (mTru (mCall f__law_span_is (mCons (mVar 10) (mCons (mIxN 5 (mVar 7)) mNil))))) (mRet (mC (.bl false))) mPass
noncomputable def gF : MS := mFor (mRng rng1 (mCons (mUn fLen (mLook 4)) mNil)) (gNm 14) (mIfS (mNotT (mTru (mCall f__law_span_is (mCons (mIxN 4 (mVar 14)) (mCons (mIxN 5 (mVar 14)) mNil))))) (mRet (mC (.bl false))) mPass)
noncomputable def deed : MS := mSeq gD (mSeq gP (mSeq g0 (mSeq g1 (mSeq g2 (mSeq gC (mSeq gI1 gF))))))
section
variable {S0 : List Int} {rs st : List Ob} {L : Ls} {B : Nat} {e : E} {i j : Nat} {p q : Nat × List Int} {w : Int} {a7 a8 a9 a10 a11 : Slot}
theorem mid (w0 : 0 ≤ w) (iv : Iv S0 rs L) (hp : PenT B rs st) (hi : L[i]? = some p) (hj : L[j]? = some q) (R : MS) :
    ∃ e' L' rs' st' p', mSeq g0 (mSeq g1 (mSeq g2 (mSeq gC R))) (dS e L i j w p q st) = R (dS e' L' i j w p q st') ∧ Iv S0 rs' L' ∧ PenT B rs' st' ∧ L'[i]? = some p' ∧ p'.1 = p.1 := by
  by_cases w3 : w < 3
  · obtain ⟨L', rs', st', p', h⟩ := mid_in (e := e) w0 w3 iv hp hi hj R
    exact ⟨e, L', rs', st', p', h⟩
  · by_cases h7 : L.length < 7
    · obtain ⟨e', L', rs', st', h1, h2, h3, h4⟩ := mid_new (e := e) (w := w) (by omega) h7 iv hp hi hj R
      exact ⟨e', L', rs', st', p, h1, h2, h3, h4, rfl⟩
    · exact ⟨e, L, rs, st, p, mid_no (w := w) (by omega) h7 R, iv, hp, hi, rfl⟩
theorem tail_ok (iv : Iv S0 rs L) (hp : PenT B rs st) {p' : Nat × List Int} (hi : L[i]? = some p') (he : p'.1 = p.1) : ∃ e', mSeq gI1 gF (dS e L i j w p q st) = .ok .nx (dS e' L i j w p q st) := by
  have h := iv.is hp hi
  rw [he] at h
  obtain ⟨z, f⟩ := f_for (fs := f__law_span_is) (e := e) (us := L.map lo) (vs := L.map wn) (st := st) (a7 := .imm (.int i)) (a8 := .imm (.int j)) (a9 := .imm (.int w)) (a10 := .imm (lo p)) (a11 := .imm (lo q)) (by have := iv.few; simp; omega) fun k hk => by
    have hk : k < L.length := by simpa using hk
    have g : L[k]? = some L[k] := List.getElem?_eq_getElem hk
    exact ⟨_, _, lo_at g, wn_at g, iv.is hp g⟩
  refine ⟨{ e with a14 := z }, ?_⟩
  rw [gI1, dS, seq_nx (o_is (x := lo p) (wn_at hi) h), gF]
  exact f
theorem deed_ok (iv : Iv S0 rs L) (hp : PenT B rs st) (hB : B + 3 < 2 ^ 30) : ∃ e' L' rs' st' b7 b8 b9 b10 b11, deed (oS e (L.map lo) (L.map wn) a7 a8 a9 a10 a11 st) = .ok .nx (oS e' (L'.map lo) (L'.map wn) b7 b8 b9 b10 b11 st') ∧ Iv S0 rs' L' ∧ PenT (B + 3) rs' st' := by
  have l0 := iv.ne
  have l7 := iv.few
  obtain ⟨x1, s1, e1, p1, q1, t1⟩ := drawT hp (by omega) (m := ((L.map lo).length : Int)) (by simp; omega) (by simp; omega)
  obtain ⟨x2, s2, e2, p2, q2, t2⟩ := drawT t1 (by omega) (m := ((L.map lo).length : Int)) (by simp; omega) (by simp; omega)
  obtain ⟨w, s3, e3, p3, q3, t3⟩ := drawT t2 (by omega) (m := 5) (by omega) (by omega)
  rw [List.length_map] at q1 q2
  obtain ⟨i, rfl⟩ := Int.eq_ofNat_of_zero_le p1
  obtain ⟨j, rfl⟩ := Int.eq_ofNat_of_zero_le p2
  have gi : L[i]? = some L[i] := List.getElem?_eq_getElem (by omega)
  have gj : L[j]? = some L[j] := List.getElem?_eq_getElem (by omega)
  obtain ⟨e', L', rs', st', p', h1, h2, h3, h4, h5⟩ := mid (e := e) p3 iv t3 gi gj (mSeq gI1 gF)
  obtain ⟨e'', h6⟩ := tail_ok (e := e') (j := j) (q := L[j]) (w := w) h2 h3 h4 h5
  refine ⟨e'', L', rs', st', .imm (.int i), .imm (.int j), .imm (.int w), .imm (lo L[i]), .imm (lo L[j]), ?_, h2, h3⟩
  rw [deed, gD, seq_nx (o_draw e1 e2 e3), gP, seq_nx (o_pick (lo_at gi) (lo_at gj))]
  exact h1.trans h6
theorem put6 (i : D) {us vs : List D} : (oS e us vs a7 a8 a9 a10 a11 st).puts [(6, i)] = oS { e with a6 := .imm i } us vs a7 a8 a9 a10 a11 st := rfl
theorem deeds (is : List D) : ∀ {rs st : List Ob} {L : Ls} {B : Nat} {e : E} {a7 a8 a9 a10 a11 : Slot}, Iv S0 rs L → PenT B rs st → B + 3 * is.length < 2 ^ 30 → ∃ s', fo (gNm 6) deed is (oS e (L.map lo) (L.map wn) a7 a8 a9 a10 a11 st) = .ok .nx s' := by
  induction is with
  | nil => exact fun _ _ _ => ⟨_, fo_nil⟩
  | cons i is ih =>
    intro rs st L B e a7 a8 a9 a10 a11 iv hp hB
    simp at hB
    obtain ⟨e', L', rs', st', b7, b8, b9, b10, b11, h, iv', hp'⟩ := deed_ok (e := { e with a6 := .imm i }) (a7 := a7) (a8 := a8) (a9 := a9) (a10 := a10) (a11 := a11) iv hp (by omega)
    rw [← put6] at h
    obtain ⟨s', k⟩ := ih (e := e') (a7 := b7) (a8 := b8) (a9 := b9) (a10 := b10) (a11 := b11) iv' hp' (by omega)
    exact ⟨s', by rw [fo_step gnm h]; exact k⟩
end
/-! ### the law -/
theorem it_deeds {ns : List D} {us vs : List D} {b c d0 : Slot} {R : List D} {st : List Ob} {f9 : List D → Option (List D)} (h : f9 [.int (4 + (if (ns.length : Int) < 9 then (ns.length : Int) else 9))] = some R) : mRng f9 (mCons (mBin fAdd (mC (.int 4)) (mMin2 (mCons (mC (.int 9)) (mCons (mUn fLen (mLook 0)) mNil)))) mNil) ⟨[.imm (.kl ns), .imm (.loc 0), b, c, .own us, .own vs, .emp, .emp, .emp, .emp, .emp, .emp, .emp, .emp, .emp, .emp, .emp], st⟩ = .ok R ⟨[.imm (.kl ns), .imm (.loc 0), b, c, .own us, .own vs, .emp, .emp, .emp, .emp, .emp, .emp, .emp, .emp, .emp, .emp, .emp], st⟩ := by
  simp [mRng, mCons, mNil, mBin, fAdd, mC, mMin2, mUn, fLen, itD, mLook, cur, bnd, DL.ret, lift, h]
theorem first_ok {fp fb : Fn} {sc b : D} {st0 st st' : List Ob} (h1 : fp [sc] st0 = .ok (.loc 0) st) (h2 : fb [.loc 0] st = .ok b st') (R : MS) : mSeq (mSet 1 (mCall fp (mCons (mVar 0) mNil))) (mSeq (mSet 2 (mCall fb (mCons (mVar 1) mNil))) R) ⟨slots 17 [sc], st0⟩ = R (aS (.imm sc) (.imm b) .emp st') := by
  have a1 : mSet 1 (mCall fp (mCons (mVar 0) mNil)) ⟨slots 17 [sc], st0⟩ = .ok .nx (⟨[.imm sc, .imm (.loc 0), .emp, .emp, .emp, .emp, .emp, .emp, .emp, .emp, .emp, .emp, .emp, .emp, .emp, .emp, .emp], st⟩) := by
    simp [slots, List.replicate, mSet, mCall, mCons, mNil, mVar, bnd, DL.ret, h1, outR, S.put]
  have a2 : mSet 2 (mCall fb (mCons (mVar 1) mNil)) (⟨[.imm sc, .imm (.loc 0), .emp, .emp, .emp, .emp, .emp, .emp, .emp, .emp, .emp, .emp, .emp, .emp, .emp, .emp, .emp], st⟩) = .ok .nx (aS (.imm sc) (.imm b) .emp st') := by
    simp [aS, mSet, mCall, mCons, mNil, mVar, bnd, DL.ret, h2, outR, S.put]
  rw [seq_nx a1, seq_nx a2]
theorem start_iv {l1 l2 l3 : List Sq} (h1 : okR l1) (h2 : okR l2) (h3 : okR l3) : Iv (0 :: (flat l1 ++ (flat l2 ++ flat l3))) [spO (pD (rowT l1)), spO (pD (rowT l2)), spO (pD (rowT l3))] [(0, rowT l1), (1, rowT l2), (2, rowT l3)] where
  cell := fun k p hk => by
    match k, hk with
    | 0, hk => cases hk; rfl
    | 1, hk => cases hk; rfl
    | 2, hk => cases hk; rfl
  dif := fun k1 k2 p1 p2 g1 g2 e => by
    match k1, k2, g1, g2 with
    | 0, 0, _, _ => rfl
    | 1, 1, _, _ => rfl
    | 2, 2, _, _ => rfl
    | 0, 1, g1, g2 => cases g1; cases g2; cases e
    | 0, 2, g1, g2 => cases g1; cases g2; cases e
    | 1, 0, g1, g2 => cases g1; cases g2; cases e
    | 1, 2, g1, g2 => cases g1; cases g2; cases e
    | 2, 0, g1, g2 => cases g1; cases g2; cases e
    | 2, 1, g1, g2 => cases g1; cases g2; cases e
  tp := fun p hp => by
    simp only [List.mem_cons, List.not_mem_nil, or_false] at hp
    rcases hp with rfl | rfl | rfl
    · exact ⟨_, row_tp h1.1⟩
    · exact ⟨_, row_tp h2.1⟩
    · exact ⟨_, row_tp h3.1⟩
  sub := fun p hp x hx => by
    simp only [List.mem_cons, List.not_mem_nil, or_false] at hp
    rcases hp with rfl | rfl | rfl
    · exact List.mem_cons_of_mem _ (List.mem_append_left _ (row_in h1.1 hx))
    · exact List.mem_cons_of_mem _ (List.mem_append_right _ (List.mem_append_left _ (row_in h2.1 hx)))
    · exact List.mem_cons_of_mem _ (List.mem_append_right _ (List.mem_append_right _ (row_in h3.1 hx)))
  few := by simp
  ne := by simp
  z := List.mem_cons_self
  s := by
    have a := flat_len l1
    have b := flat_len l2
    have c := flat_len l3
    have := h1.2
    have := h2.2
    have := h3.2
    simp
    omega
noncomputable def lawM : MS := (mSeq (mSet 1 (mCall f__law_pen (mCons (mVar 0) mNil)))
  (mSeq (mSet 2 (mCall f__law_base (mCons (mVar 1) mNil)))
  (mSeq (mOwn 3 (mLc (mRng rng1 (mCons (mC (.int 3)) mNil)) (gNm 15) mYes (mCall f__law_stretches (mCons (mVar 1) (mCons (mVar 2) mNil))) [15]))
  (mSeq (mParFF 4 5 (mLc (mIt (mVar 3)) (gNm 16) mYes (mMake "Span" f_Span___init__ (mCons (mVar 16) mNil)) [16]) (mLc (mIt (mVar 3)) (gNm 16) mYes (mCall f__law_united (mCons (mVar 16) mNil)) [16]))
  (mSeq (mFor (mRng rng1 (mCons (mBin fAdd (mC (.int 4)) (mMin2 (mCons (mC (.int 9)) (mCons (mUn fLen (mLook 0)) mNil)))) mNil)) (gNm 6) deed) (mRet (mC (.bl true))))))))
theorem rng_deeds (n : Nat) : ∃ k : Nat, k ≤ 13 ∧ rng1 [.int (4 + (if (n : Int) < 9 then (n : Int) else 9))] = some (intsD 0 k) := by
  by_cases h : (n : Int) < 9
  · rw [if_pos h]
    exact ⟨4 + n, by omega, by rw [show (4 : Int) + n = ((4 + n : Nat) : Int) by omega]; exact rng_nat (by omega)⟩
  · rw [if_neg h]
    exact ⟨13, by omega, rng_nat (n := 13) (by omega)⟩
theorem ret_true {s : S} : endR (mRet (mC (.bl true)) s) = .ok (.bl true) s.st := rfl
def e0 (d0 : D) (b r : Slot) : E := ⟨.imm d0, b, r, .emp, .emp, .emp, .emp⟩
theorem put45 {sc b c : Slot} {us vs : List D} {st : List Ob} : ((aS sc b c st).put 4 (.own us)).put 5 (.own vs) = ⟨[sc, .imm (.loc 0), b, c, .own us, .own vs, .emp, .emp, .emp, .emp, .emp, .emp, .emp, .emp, .emp, .emp, .emp], st⟩ := rfl
theorem lawM_ok (ns : List Int) (h : ns.length ≤ 63) : ∃ st, fnM 17 lawM [.kl (ns.map .int)] [] = .ok (.bl true) st := by
  have hp : PenT 0 [] [.dct (penL ns 0 0)] := ⟨ns, 0, 0, rfl, by omega, by omega, by omega, by omega⟩
  obtain ⟨b, st1, e1, b0, p1⟩ := base_eq hp (by omega)
  obtain ⟨l1, l2, l3, st2, r1, k1, k2, k3, p2⟩ := rows_eq (sc := .imm (.kl (ns.map .int))) ⟨_, rfl⟩ p1 (by omega) b0
  have p2' := p2
  obtain ⟨cs, x, y, rfl, m1, m2, m3, m4⟩ := p2
  have sp := spans_eq (d0 := .kl (ns.map .int)) (b0 := .int b) (p := .dct (penL cs x y)) k1 k2 k3
  rw [put45] at sp
  obtain ⟨k, hk, hr⟩ := rng_deeds (ns.map D.int).length
  have it := it_deeds (ns := ns.map D.int) (us := [.loc 1, .loc 2, .loc 3]) (vs := [pD (rowT l1), pD (rowT l2), pD (rowT l3)]) (b := .imm (.int b)) (c := .imm (.lst [rD l1, rD l2, rD l3])) (d0 := .emp) (st := [.dct (penL cs x y), spO (pD (rowT l1)), spO (pD (rowT l2)), spO (pD (rowT l3))]) hr
  have pp : PenT 98 [spO (pD (rowT l1)), spO (pD (rowT l2)), spO (pD (rowT l3))] [.dct (penL cs x y), spO (pD (rowT l1)), spO (pD (rowT l2)), spO (pD (rowT l3))] := ⟨cs, x, y, rfl, m1, m2, m3, m4⟩
  obtain ⟨s', k4⟩ := deeds (intsD 0 k) (e := e0 (.kl (ns.map .int)) (.imm (.int b)) (.imm (.lst [rD l1, rD l2, rD l3]))) (a7 := .emp) (a8 := .emp) (a9 := .emp) (a10 := .emp) (a11 := .emp) (start_iv k1 k2 k3) pp (by rw [ints_len]; omega)
  refine ⟨s'.st, ?_⟩
  show endR (lawM ⟨slots 17 [.kl (ns.map .int)], []⟩) = _
  rw [lawM, first_ok (pen_eq ns h) e1, seq_nx r1, seq_nx sp, seq_nx (for_of it k4), ret_true]
end SP

namespace DL
open PySem PySem.Spec L2
/-! ### max(a, b) -/
def mMax2 (m : MA) : ME := bnd m fun ds s => match ds with
  | [.int i, .int j] => .ok (.int (if j > i then j else i)) s
  | _ => .stuck
theorem je_max2 {X : Cx} {W : WX} {a b : Expr} {m : MA} {p pos : Pos} (hc : X.calm = true) (hg : Gl X "max") (hm : X.mg "max" = none) (h : JA X W [a, b] m) (h1 : starEach [a, b] X.env = (false, eval a X.env) :: starEach [b] X.env := by rfl) (h2 : (backTo pos (starEach [b] X.env)).any (·.1) = false := by rfl) :
    JE X W (.Call (.Name "max" p) [a, b] [] pos) (mMax2 m) := by
  refine PE.imp (pe_callB (call_max2 hc) hg hm rfl h.pa (by decide) (by decide) h1 h2) fun σ H Q h => ?_
  obtain ⟨w, rfl, rfl, r, h⟩ := h
  refine run' r h fun ds s' G' vs H' hm2 g r' q h' => ?_
  split at h'
  · rename_i i j
    cases q with
    | cons q1 q2 =>
      cases q2 with
      | cons q2 q3 =>
        cases q3
        cases q1; cases q2
        exact ⟨i, j, rfl, h' _ _ _ (.refl _) r' (.int _)⟩
  · exact h'.elim
/-! ### the types of values -/
theorem ty_look {X : Cx} {pins : List (Addr × Obj)} {σ : L2.St} {H : Hp} {s : Shared} {M : Model} {y : V} {u t : Value} (I : Inv X pins σ H s) (ry : RelV y u) (ty : TyX X.K H y t) : PySem.W.Looks M s.heap (typeOf u) t := by
  obtain ⟨P, Z, p, _⟩ := kit_of I ry ty
  exact Z.ty _ _ I.kIn p
def isTyV : Value → Bool
  | .type _ => true
  | _ => false
theorem mro_tab : (tysL.all fun t => match fastBuiltinMro t with | some l => l.all isTyV | none => false) = true := by decide +kernel
theorem no_ref {l : List Value} (h : l.all isTyV = true) (C : Addr) : l.contains (.ref C) = false := by
  rw [List.contains_eq_any_beq, List.any_eq_false]
  intro v hv
  have := List.all_eq_true.mp h v hv
  cases v <;> simp [isTyV] at this ⊢
theorem sub_ty {K : PySem.W.Frag} {t : String} (h : t ∈ tysL) (C : Addr) : PySem.W.subIn K (.type t) (.ref C) = some false := by
  have e := List.all_eq_true.mp mro_tab t h
  show (fastBuiltinMro t).map (·.contains (.ref C)) = some false
  split at e
  · rename_i l hl
    rw [hl, Option.map_some, no_ref e]
  · cases e
theorem not_first {K : PySem.W.Frag} {t : String} (h : t ∈ tysL) (C : Addr) : PySem.W.notFirst K C (.type t) = true := by
  unfold PySem.W.notFirst
  rw [sub_ty h]
  simp
/-! ### comparisons by a class's own methods -/
section
variable {X : Cx} {CX : CXT} {k : Nat} {f C : Addr} {fd : FuncData} {ps : List Str} {sp : Sp} {pos : Pos}
/-- what the own comparison asks; it raises nothing -/
def rCmpA (K : PySem.W.Frag) (C : Addr) (sp : Sp) : R2 := fun x y H Q => ∃ i di fi t, x = .ref i ∧ H i = some (.ins C di fi) ∧ TyX K H y t ∧ PySem.W.notFirst K C t = true ∧ sp [x, y] H Q fun _ _ _ => False
theorem op_cmpA {op : CmpOp} (hop : ∀ v u, compareOp op v u = richCompare op v u) (o : Own X.K C f (cmpInfo op).2.1) (F : FnOk X.prog X.w X.K X.mg X.base CX k f fd ps sp) (hr : Room k X.A) (hb : Binds X.K fd ps []) (hx : ∀ σ, PassesAt CX X σ fun _ _ _ => False) : OpR X (compareOp op) (rCmpA X.K C sp) := by
  intro pins s σ H x y v u Q J rx ry h
  obtain ⟨i, di, fi, t, rfl, e1, ty, nf, q⟩ := h
  cases rx
  obtain ⟨o1, I1⟩ := inst_of J e1
  obtain ⟨m, hF⟩ := J.fr
  rw [hop]
  refine PySem.W.cmp_K (tb := t) hr.units0 hF J.ok.mod.kin I1 (ty_look J ry ty) nf o.at_ (beq_iff_eq.mpr o.ty) (thn (run_fnSD (E := fun _ _ _ _ => False) (dvs := []) F hr hb Paired.nil (hx σ) J (vs := [.ref i, y]) (.cons rfl (.cons ry .nil)) q) fun z s3 hz => ?_)
  obtain ⟨v, H3, J3, rv, qv⟩ := hz
  have ne := relV_ne rv
  unfold PySem.W.CmpBack
  split
  · exact absurd rfl ne
  · exact ⟨v, H3, J3, rv, qv⟩
end
/-! ### != by the class's own == -/
section
variable {prog : Program} {w : World} {A : Around} {E : Value → Shared → Prop} {s : Shared} {K : PySem.W.Frag} {C f x : Addr} {ox : Obj} {od : Option Obj} {b tb : Value}
/-- the class has no != of its own -/
structure NoNe (K : PySem.W.Frag) (C : Addr) : Prop where
  ne : PySem.W.findIn K (.ref C) "__ne__" = some (some (.builtin "object.__ne__"))
  mro : PySem.W.mroIn K C (.type "object") = some true
theorem ne_entry (hu : A.units < cLine) (Xk : K.In s.heap) (I : PySem.W.InstAt s.heap x ox C od) (o : Own K C f "__eq__") {Q : Fin → Shared → Prop}
    (hcall : wpAny (model prog w) A (call (.ref f) [.ref x, b]) (fun v s' => ∃ r, v = .bool r ∧ Q (.done (.ret (.bool (!r)))) s') E s) :
    wpAny (model prog w) A (Builtin.«object.__ne__» ⟨[.ref x, b], []⟩) Q E s := by
  unfold Builtin.«object.__ne__»
  repeat (first
    | with_reducible refine wpAny_cRoomFor hu ?_
    | (refine wpAny_bind (m := callSpecialIfBound? (.ref x) (Str.ofString "__eq__") [b])
        (PySem.W.ifBound_K Xk I o.at_ (beq_iff_eq.mpr o.ty) (wpAny_mono hcall (fun r s' hr => by
          obtain ⟨b, rfl, hq⟩ := hr
          repeat (first | exact hq | exact wpAny_pure hq | exact wpAny_truthy_bool hq | (refine wpAny_bind (m := truthy (.bool _)) (wpAny_truthy_bool ?_)) | wp_step)) fun _ _ e => e)))
    | wp_step)
theorem ne_bound {M : Model} {args : List Value} {Q : Option Value → Shared → Prop} (Xk : K.In s.heap) (I : PySem.W.InstAt s.heap x ox C od) (n : NoNe K C)
    (h : wpAny M A (call (.builtin "object.__ne__") (.ref x :: args)) (fun v => Q (some v)) E s) : wpAny M A (callSpecialIfBound? (.ref x) "__ne__" args) Q E s := by
  simp only [callSpecialIfBound?, bindSpecialIfBound?]
  refine wpAny_holding (wpAny_bind (wpAny_bind (wpAny_bind (I.type.here ((PySem.W.looks_findIn Xk n.ne).here ?_)))))
  refine wpAny_bind (wpAny_askSetting (wpAny_ite ?_))
  have fin : wpAny M A (call (.builtin "object.__ne__") ([.ref x] ++ args) >>= fun v => pure (some v)) Q E s := wpAny_bind (wpAny_mono h (fun v s' h' => wpAny_pure h') fun _ _ h' => h')
  split
  · exact wpAny_bind (wpAny_of_eq (F.cmp_object.ne.bind _) (wpAny_pure (by exact fin)))
  · exact wpAny_tryCatch (wpAny_bind (wpAny_of_eq (F.cmp_object.ne.bind _) (wpAny_pure (by exact fin))))
theorem ne_own {Q : Value → Shared → Prop} (hu : A.units + 1 < cLine) (Xk : K.In s.heap) (I : PySem.W.InstAt s.heap x ox C od) (n : NoNe K C) (o : Own K C f "__eq__") (hb : PySem.W.Looks (model prog w) s.heap (typeOf b) tb) (nf : PySem.W.notFirst K C tb = true)
    (hcall : wpAny (model prog w) A.in1 (call (.ref f) [.ref x, b]) (fun v s' => ∃ r, v = .bool r ∧ Q (.bool (!r)) s') E s) :
    wpAny (model prog w) A (richCompare .NotEq (.ref x) b) Q E s := by
  have one : wpAny (model prog w) A (tryCompare (.ref x) "__ne__" b) (fun r s' => ∃ v, r = some v ∧ Q v s') E s := by
    unfold tryCompare
    refine wpAny_bind (ne_bound Xk I n (wpAny_call (codeAny_call_builtin F.cmp_object.ne.plain F.cmpEntry_ne (PySem.W.check_slot F.cmpKind_ne F.cmpSplit_ne (I.type.andThen (PySem.W.looks_mroIn Xk n.mro)) (F.cmpArgs_ne _ _)
      (ne_entry (A := A.in1) hu Xk I o (wpAny_mono hcall (fun v s' hv => ?_) fun _ _ e => e))))))
    obtain ⟨r, rfl, hq⟩ := hv
    exact ⟨r, rfl, wpAny_pure ⟨_, rfl, hq⟩⟩
  unfold richCompare
  simp only [oneThing_ref]
  refine wpAny_holding (wpAny_bind (wpAny_cRoomFor (Nat.lt_of_succ_lt hu) ?_))
  rw [cmpInfo_NotEq]
  dsimp only
  refine wpAny_bind (I.type.here (wpAny_bind (hb.here ?_)))
  split
  · rename_i q
    have e : PySem.W.subIn K tb (.ref C) = some false := by
      rcases Bool.or_eq_true_iff.mp nf with e | e
      · rw [beq_iff_eq.mp e] at q; simp at q
      · exact beq_iff_eq.mp e
    refine wpAny_bind ((PySem.W.looks_subIn Xk e).here ?_)
    simp only [Bool.false_eq_true, if_false]
    refine wpAny_bind (wpAny_mono one (fun r s' z => ?_) fun _ _ e => e)
    obtain ⟨v, rfl, hq⟩ := z
    exact wpAny_pure hq
  · refine wpAny_bind (wpAny_pure ?_)
    simp only [Bool.false_eq_true, if_false]
    refine wpAny_bind (wpAny_mono one (fun r s' z => ?_) fun _ _ e => e)
    obtain ⟨v, rfl, hq⟩ := z
    exact wpAny_pure hq
end
section
variable {X : Cx} {CX : CXT} {k : Nat} {f C : Addr} {fd : FuncData} {ps : List Str} {sp : Sp} {pos : Pos}
def rNeA (K : PySem.W.Frag) (C : Addr) (sp : Sp) : R2 := fun x y H Q => ∃ i di fi t, x = .ref i ∧ H i = some (.ins C di fi) ∧ TyX K H y t ∧ PySem.W.notFirst K C t = true ∧ sp [x, y] H (fun z H' => ∃ r, z = .bl r ∧ Q (.bl (!r)) H') fun _ _ _ => False
theorem op_neA (n : NoNe X.K C) (o : Own X.K C f "__eq__") (F : FnOk X.prog X.w X.K X.mg X.base CX k f fd ps sp) (hr : Room (k + 1) X.A) (hb : Binds X.K fd ps []) (hx : ∀ σ, PassesAt CX X σ fun _ _ _ => False) : OpR X (compareOp .NotEq) (rNeA X.K C sp) := by
  intro pins s σ H x y v u Q J rx ry h
  obtain ⟨i, di, fi, t, rfl, e1, ty, nf, q⟩ := h
  cases rx
  obtain ⟨o1, I1⟩ := inst_of J e1
  show wpAny (model X.prog X.w) X.A (richCompare .NotEq (.ref i) u) (EP X pins σ Q) X.xe s
  refine ne_own hr.in1.units0 J.kIn I1 n o (ty_look J ry ty) nf ?_
  have e0 : Env0 X.prog X.w X.K X.mg X.base X.A.in1 X.stack s H := by
    have e := J.env0
    exact ⟨e.frames, e.mod, e.bs, e.bsz, e.funs, e.frf, e.hok, e.bare⟩
  have r2 : Vals [V.ref i, y] [Value.ref i, u] := .cons rfl (.cons ry .nil)
  have hl := F.len _ _ _ _ q
  refine wpAny_call (codeAny_mono (F.run X.A.in1 X.stack s H ⟨[.ref i, u], []⟩ [.ref i, u] [.ref i, y] _ _ hr.in1 e0 (by
    have := hb s [.ref i, u] J.kIn (by simpa using hl)
    simpa using this) r2 q) fun r s' hq => ?_)
  cases r with
  | error e => exact hx σ pins H s e s' J hq
  | ok fl =>
    cases fl with
    | ret w =>
      obtain ⟨z, H', I', rz, r, ez, qz⟩ := J.after hq
      subst ez
      cases rz
      exact ⟨r, rfl, .bl (!r), H', I', rfl, qz⟩
    | next => exact False.elim hq
    | brk => exact False.elim hq
    | cont => exact False.elim hq
end
end DL

namespace DL
open PySem PySem.Spec L2
/-! ### a op n by the class's own method, n a whole number -/
section
variable {prog : Program} {w : World} {A : Around} {E : Value → Shared → Prop} {s : Shared} {K : PySem.W.Frag} {M : Model} {h : Heap} {C f a : Addr} {oa : Obj} {da : Option Obj}
structure IntOp (nm : String) : Prop where
  f : ∃ v, builtinLookup "int" (PySem.dunder nm) = some (some v) ∧ isSeqSlot (some v) = false
  r : ∃ v, builtinLookup "int" (PySem.dunderR nm) = some v
theorem look_int {name : Str} {r : Option Value} (e : builtinLookup "int" name = some r) : PySem.W.Looks M h (typeLookup (.type "int") name) r := PySem.W.Looks.of_pure (by rw [typeLookup_type, e])
theorem fills_int {nm : String} (i : IntOp nm) : PySem.W.Looks M h (fillsNumberSlot (.type "int") nm) true := by
  obtain ⟨⟨v, h1, h2⟩, ⟨r, h3⟩⟩ := i
  unfold fillsNumberSlot
  refine PySem.W.Looks.andThen (look_int h1) (PySem.W.Looks.andThen (look_int h3) ?_)
  refine PySem.W.Looks.of_pure ?_
  rw [h2]
  rfl
theorem py_own {nm : String} {r0 : Option Value} (X : K.In h) (o : Own K C f (PySem.dunder nm)) (hr : PySem.W.findIn K (.ref C) (PySem.dunderR nm) = some r0) (hn : r0 = none ∨ ∃ g, r0 = some (.ref g)) : PySem.W.Looks M h (numberSlotInPython (.ref C) nm) true := by
  unfold numberSlotInPython
  refine PySem.W.Looks.andThen (PySem.W.looks_findIn X o.at_) (PySem.W.Looks.andThen (a := true) (PySem.W.Looks.of_pure rfl) (PySem.W.Looks.andThen (PySem.W.looks_findIn X hr) (PySem.W.Looks.andThen (a := r0.isSome) ?_ ?_)))
  · rcases hn with rfl | ⟨g, rfl⟩ <;> exact PySem.W.Looks.of_pure rfl
  · exact PySem.W.Looks.of_pure rfl
theorem bin_ownI {op : Operator} {n : Int} {tk : Tok} {r0 : Option Value} {Q : Value → Shared → Prop} (X : K.In s.heap) (J : PySem.W.InstAt s.heap a oa C da) (o : Own K C f (PySem.dunder op.info.2)) (io : IntOp op.info.2) (hr : PySem.W.findIn K (.ref C) (PySem.dunderR op.info.2) = some r0) (hn : r0 = none ∨ ∃ g, r0 = some (.ref g))
    (hcall : wpAny (model prog w) A (call (.ref f) [.ref a, .int n tk]) (fun v s' => v ≠ .notImplemented ∧ Q v s') E s) : wpAny (model prog w) A (binaryOp op (.ref a) (.int n tk)) Q E s := by
  unfold binaryOp
  refine wpAny_holding ?_
  generalize hop : op.info = oi at o io hr ⊢
  obtain ⟨sym, nm⟩ := oi
  dsimp only at o io hr ⊢
  refine wpAny_bind ?_
  unfold binaryOp1
  have ty : PySem.W.Looks (model prog w) s.heap (typeOf (.int n tk)) (.type "int") := PySem.W.Looks.of_pure rfl
  have ne : (Value.ref C == Value.type "int") = false := by simp
  have su := PySem.W.looks_subIn (M := model prog w) X (sub_ty (K := K) (t := "int") (by decide) C)
  obtain ⟨rv, hrv⟩ := io.r
  refine wpAny_bind (J.type.here (wpAny_bind (ty.here (wpAny_bind ((fills_own X o).here ?_)))))
  simp only [ne, Bool.false_eq_true, if_false]
  refine wpAny_bind ((fills_int io).here ?_)
  simp only [Bool.and_self, if_true]
  refine wpAny_bind (su.here ?_)
  simp only [Bool.false_eq_true, if_false, pure_bind, Bool.not_false, Bool.and_self, if_true]
  refine wpAny_bind ((py_own X o hr hn).here ?_)
  simp only [if_true]
  refine wpAny_bind (wpAny_of_eq (show numberSlotInPython (.type "int") nm = pure false from rfl) ?_)
  simp only [Bool.not_false, if_true]
  refine wpAny_bind ((look_int hrv).here ?_)
  refine wpAny_bind (tryMethod_own X J o (wpAny_mono hcall (fun v s' q => ⟨q.1, ?_⟩) fun _ _ e => e))
  exact wpAny_pure (wpAny_pure q.2)
end
theorem io_rshift : IntOp "rshift" := ⟨⟨.builtin "int.__rshift__", by rw [builtinLookup_eq_fast]; kernel_rfl, by decide +kernel⟩, ⟨some (.builtin "int.__rrshift__"), by rw [builtinLookup_eq_fast]; kernel_rfl⟩⟩
theorem io_lshift : IntOp "lshift" := ⟨⟨.builtin "int.__lshift__", by rw [builtinLookup_eq_fast]; kernel_rfl, by decide +kernel⟩, ⟨some (.builtin "int.__rlshift__"), by rw [builtinLookup_eq_fast]; kernel_rfl⟩⟩
end DL

namespace DL
open PySem PySem.Spec L2
/-! ### comparisons by own methods: mirrors -/
def tyK (c : Str) (s : S) (y : D) : Bool := (insAt c s y).isSome || (tyD y).isSome
def okO (s : S) : RO → DL.R D
  | .ok z st' => .ok z { s with st := st' }
  | _ => .stuck
def nbO (s : S) : RO → DL.R D
  | .ok (.bl b) st' => .ok (.bl (!b)) { s with st := st' }
  | _ => .stuck
def mCmpO (c : Str) (fn : Fn) (a b : ME) : ME := bnd a fun x => bnd b fun y s => match insAt c s x with
  | some _ => if tyK c s y then okO s (fn [x, y] s.st) else .stuck
  | none => .stuck
def mNeO (c : Str) (fn : Fn) (a b : ME) : ME := bnd a fun x => bnd b fun y s => match insAt c s x with
  | some _ => if tyK c s y then nbO s (fn [x, y] s.st) else .stuck
  | none => .stuck
def mOpI (c : Str) (fn : Fn) (a b : ME) : ME := bnd a fun x => bnd b fun y s => match insAt c s x, y with
  | some _, .int _ => outR s (fn [x, y] s.st)
  | _, _ => .stuck
theorem tyK_rel {K : PySem.W.Frag} {pn : List (Addr × Obj)} {w : Wd} {c : Str} {v : V} {d : D} (hI : IsC K c) (r : Rel K pn w) (p : Rep K w.G v d) (h : tyK c w.s d = true) : ∃ t, TyX K w.H v t ∧ PySem.W.notFirst K (He.ga K c) t = true := by
  unfold tyK at h
  cases hi : insAt c w.s d with
  | some q =>
    obtain ⟨a, dx, fvs, rfl, _, e1, _⟩ := insAt_rel (fs := q.2) (n := q.1) r p hi
    exact ⟨_, hI.ty _ _ _ _ e1, by simp [PySem.W.notFirst]⟩
  | none =>
    rw [hi] at h
    cases ht : tyD d with
    | none => rw [ht] at h; cases h
    | some t => exact ⟨_, tyx_of r (.inl p) ht, not_first (tyD_in ht) _⟩
section
variable {X : Cx} {W : WX} {k : Nat} {f : Addr} {fd : FuncData} {ps : List Str} {fn : Fn} {c : Str} {a b e : Expr} {ma mb m : ME} {pos : Pos}
theorem cmpO_run {σ : L2.St} {H : Hp} {Q : VK} (hI : IsC X.K c) (hl : 2 = ps.length) (h : tG X.K X.pn W (AR X.K) (mCmpO c fn ma mb) σ H Q) : tOp (rCmpA X.K (He.ga X.K c) (spF X.K ps.length fn)) (tG X.K X.pn W (AR X.K) ma) (tG X.K X.pn W (AR X.K) mb) σ H Q := by
  obtain ⟨w, rfl, rfl, r, h⟩ := h
  refine run r h fun x s1 G1 vx H1 g1 r1 p1 h1 => ?_
  refine run r1 h1 fun y s2 G2 vy H2 g2 r2 p2 h2 => ?_
  cases hi : insAt c s2 x with
  | none => simp only [hi] at h2; exact h2.elim
  | some qx =>
    simp only [hi] at h2
    split at h2
    · rename_i ht
      have p1 := p1.mono g2
      obtain ⟨i, di, fi, rfl, _, e1, _⟩ := insAt_rel (w := { w with G := G2, H := H2, s := s2 }) (fs := qx.2) (n := qx.1) r2 p1 hi
      obtain ⟨t, ty, nf⟩ := tyK_rel (w := { w with G := G2, H := H2, s := s2 }) hI r2 p2 ht
      refine ⟨i, di, fi, t, rfl, e1, ty, nf, ?_⟩
      refine ⟨G2, [x, y], s2.st, hl, ⟨r2.ex, r2.st⟩, .cons p1 (.cons p2 .nil), ?_⟩
      cases hf : fn [x, y] s2.st with
      | ok z st' =>
        rw [hf] at h2
        intro G3 vz H3 l at3 p3
        exact h2 G3 vz H3 l.g (Rel.after (w := { w with G := G2, H := H2, s := s2 }) r2 l at3) p3
      | exc x2 st' => rw [hf] at h2; exact h2.elim
      | stuck => rw [hf] at h2; exact h2.elim
    · exact h2.elim
theorem neO_run {σ : L2.St} {H : Hp} {Q : VK} (hI : IsC X.K c) (hl : 2 = ps.length) (h : tG X.K X.pn W (AR X.K) (mNeO c fn ma mb) σ H Q) : tOp (rNeA X.K (He.ga X.K c) (spF X.K ps.length fn)) (tG X.K X.pn W (AR X.K) ma) (tG X.K X.pn W (AR X.K) mb) σ H Q := by
  obtain ⟨w, rfl, rfl, r, h⟩ := h
  refine run r h fun x s1 G1 vx H1 g1 r1 p1 h1 => ?_
  refine run r1 h1 fun y s2 G2 vy H2 g2 r2 p2 h2 => ?_
  cases hi : insAt c s2 x with
  | none => simp only [hi] at h2; exact h2.elim
  | some qx =>
    simp only [hi] at h2
    split at h2
    · rename_i ht
      have p1 := p1.mono g2
      obtain ⟨i, di, fi, rfl, _, e1, _⟩ := insAt_rel (w := { w with G := G2, H := H2, s := s2 }) (fs := qx.2) (n := qx.1) r2 p1 hi
      obtain ⟨t, ty, nf⟩ := tyK_rel (w := { w with G := G2, H := H2, s := s2 }) hI r2 p2 ht
      refine ⟨i, di, fi, t, rfl, e1, ty, nf, ?_⟩
      refine ⟨G2, [x, y], s2.st, hl, ⟨r2.ex, r2.st⟩, .cons p1 (.cons p2 .nil), ?_⟩
      cases hf : fn [x, y] s2.st with
      | ok z st' =>
        rw [hf] at h2
        cases z with
        | bl bb =>
          intro G3 vz H3 l at3 p3
          cases p3
          exact ⟨bb, rfl, h2 G3 _ H3 l.g (Rel.after (w := { w with G := G2, H := H2, s := s2 }) r2 l at3) (.bl _)⟩
        | _ => exact h2.elim
      | exc x2 st' => rw [hf] at h2; exact h2.elim
      | stuck => rw [hf] at h2; exact h2.elim
    · exact h2.elim
theorem test_run {t : TE} {m : ME} {σ : L2.St} {H : Hp} {Q : Bool → Hp → Prop} (hr : ∀ {Q' : VK}, tG X.K X.pn W (AR X.K) m σ H Q' → t σ H Q') (h : tG X.K X.pn W AB (mBl m) σ H Q) : tTest t σ H Q := by
  obtain ⟨w, rfl, rfl, r, h⟩ := h
  refine hr ?_
  refine run r h fun d s' G' v H' g r' p h' => ?_
  obtain ⟨k, e, q⟩ := optB_fin h' r'
  unfold isBl at e
  split at e
  · cases e
    cases p
    exact ⟨_, rfl, q⟩
  · cases e
variable {nm : Str}
theorem je_cmpK {op : CmpOp} (hop : ∀ v u, compareOp op v u = richCompare op v u) (C : KC X.K X.mg c) (o : Own X.K (He.ga X.K c) (He.ma X.K (He.ga X.K c) nm) nm) (hnm : nm = (cmpInfo op).2.1) (F : KnM X.prog X.w X.K X.mg X.base c nm k ps fn) (hr : Room k X.A) (ha : JE X W a ma) (hb' : JE X W b mb) (hm : behindInMarks op b = false) (hl : 2 = ps.length := by rfl) : JE X W (.Compare a [op] [b] pos) (mCmpO c fn ma mb) := by
  subst hnm
  obtain ⟨fd, F, hb⟩ := F
  exact PE.imp (pe_cmpR (op_cmpA hop o F hr hb fun σ => passAt (W := fun _ _ _ _ => False) tkF σ) ha hb' hm) fun σ H Q h => cmpO_run C.is hl h
theorem jt_cmpK {op : CmpOp} (hop : ∀ v u, compareOp op v u = richCompare op v u) (C : KC X.K X.mg c) (o : Own X.K (He.ga X.K c) (He.ma X.K (He.ga X.K c) nm) nm) (hnm : nm = (cmpInfo op).2.1) (F : KnM X.prog X.w X.K X.mg X.base c nm k ps fn) (hr : Room k X.A) (ha : JE X W a ma) (hb' : JE X W b mb) (hm : behindInMarks op b = false) (hl : 2 = ps.length := by rfl) : JT X W (.Compare a [op] [b] pos) (mBl (mCmpO c fn ma mb)) := by
  subst hnm
  obtain ⟨fd, F, hb⟩ := F
  exact PT.imp (pt_cmpR (op_cmpA hop o F hr hb fun σ => passAt (W := fun _ _ _ _ => False) tkF σ) ha hb' hm) fun σ H Q h => test_run (fun h => cmpO_run C.is hl h) h
theorem je_neK (C : KC X.K X.mg c) (n : NoNe X.K (He.ga X.K c)) (o : Own X.K (He.ga X.K c) (He.ma X.K (He.ga X.K c) "__eq__") "__eq__") (F : KnM X.prog X.w X.K X.mg X.base c "__eq__" k ps fn) (hr : Room (k + 1) X.A) (ha : JE X W a ma) (hb' : JE X W b mb) (hm : behindInMarks .NotEq b = false) (hl : 2 = ps.length := by rfl) : JE X W (.Compare a [.NotEq] [b] pos) (mNeO c fn ma mb) := by
  obtain ⟨fd, F, hb⟩ := F
  exact PE.imp (pe_cmpR (op_neA n o F hr hb fun σ => passAt (W := fun _ _ _ _ => False) tkF σ) ha hb' hm) fun σ H Q h => neO_run C.is hl h
theorem jt_neK (C : KC X.K X.mg c) (n : NoNe X.K (He.ga X.K c)) (o : Own X.K (He.ga X.K c) (He.ma X.K (He.ga X.K c) "__eq__") "__eq__") (F : KnM X.prog X.w X.K X.mg X.base c "__eq__" k ps fn) (hr : Room (k + 1) X.A) (ha : JE X W a ma) (hb' : JE X W b mb) (hm : behindInMarks .NotEq b = false) (hl : 2 = ps.length := by rfl) : JT X W (.Compare a [.NotEq] [b] pos) (mBl (mNeO c fn ma mb)) := by
  obtain ⟨fd, F, hb⟩ := F
  exact PT.imp (pt_cmpR (op_neA n o F hr hb fun σ => passAt (W := fun _ _ _ _ => False) tkF σ) ha hb' hm) fun σ H Q h => test_run (fun h => neO_run C.is hl h) h
/-! ### a op n -/
/-- the class has no reflected method of the name -/
def NoR (K : PySem.W.Frag) (c nm : Str) : Prop := ∃ r0, PySem.W.findIn K (.ref (He.ga K c)) nm = some r0 ∧ (r0 = none ∨ ∃ g, r0 = some (.ref g))
def tOpI (C : Addr) (sp : Sp) (E : L2.St → XK) (ta tb : TE) : TE := fun σ H Q => ta σ H fun x H1 => tb σ H1 fun y H2 => ∃ i di fi n, x = .ref i ∧ y = .int n ∧ H2 i = some (.ins C di fi) ∧ sp [x, y] H2 Q (E σ)
theorem je_opI {op : Operator} (o : Own X.K (He.ga X.K c) (He.ma X.K (He.ga X.K c) nm) nm) (hnm : nm = PySem.dunder op.info.2) (io : IntOp op.info.2) {rn : Str} (nr : NoR X.K c rn) (hrn : rn = PySem.dunderR op.info.2) (F : KnM X.prog X.w X.K X.mg X.base c nm k ps fn) (hr : Room k X.A) (tk : Takes X W) (ha : JE X W a ma) (hb' : JE X W b mb) (hl : 2 = ps.length := by rfl) : JE X W (.BinOp a op b pos) (mOpI c fn ma mb) := by
  subst hnm
  subst hrn
  obtain ⟨fd, F, hb⟩ := F
  obtain ⟨r0, n1, n2⟩ := nr
  have pe : PE X (.BinOp a op b pos) (tOpI (He.ga X.K c) (spF X.K ps.length fn) (WE W) (tG X.K X.pn W (AR X.K) ma) (tG X.K X.pn W (AR X.K) mb)) := by
    refine ⟨fun pins s σ H Q J h => wpAny_BinOp (binT ha hb' J h fun v u s2 x y H2 J2 rx ry q => ?_)⟩
    obtain ⟨i, di, fi, n, rfl, rfl, e1, q⟩ := q
    cases rx
    obtain ⟨t, rfl⟩ := ry
    obtain ⟨o1, I1⟩ := inst_of J2 e1
    refine bin_ownI J2.kIn I1 o io n1 n2 (thn (run_fnSD (E := WE W) (dvs := []) F hr hb Paired.nil (passAt tk σ) J2 (vs := [.ref i, .int n]) (.cons rfl (.cons ⟨t, rfl⟩ .nil)) q) fun z s3 hz => ?_)
    obtain ⟨v, H3, J3, rv, qv⟩ := hz
    exact ⟨relV_ne rv, v, H3, J3, rv, qv⟩
  refine PE.imp pe fun σ H Q h => ?_
  obtain ⟨w, rfl, rfl, r, h⟩ := h
  refine run r h fun x s1 G1 vx H1 g1 r1 p1 h1 => ?_
  refine run r1 h1 fun y s2 G2 vy H2 g2 r2 p2 h2 => ?_
  cases hi : insAt c s2 x with
  | none => simp only [hi] at h2; exact h2.elim
  | some qx =>
    simp only [hi] at h2
    split at h2
    · cases p2
      have p1 := p1.mono g2
      obtain ⟨i, di, fi, rfl, _, e1, _⟩ := insAt_rel (w := { w with G := G2, H := H2, s := s2 }) (fs := qx.2) (n := qx.1) r2 p1 hi
      exact ⟨i, di, fi, _, rfl, rfl, e1, call_run (W := W) (fn := fn) (w := { w with G := G2, H := H2, s := s2 }) r2 (.cons p1 (.cons (.int _) .nil)) hl h2⟩
    · exact h2.elim
end
def noNeB (c : Str) (K : PySem.W.Frag) : Bool := He.eqO (PySem.W.findIn K (.ref (He.ga K c)) "__ne__") (some (some (.builtin "object.__ne__"))) && decide (PySem.W.mroIn K (He.ga K c) (.type "object") = some true)
theorem noNeB_ok {K : PySem.W.Frag} {c : Str} (h : noNeB c K = true) : NoNe K (He.ga K c) := by
  obtain ⟨h1, h2⟩ := He.ba h
  exact ⟨He.eqO_ok h1, of_decide_eq_true h2⟩
def noRB (c nm : Str) (K : PySem.W.Frag) : Bool := He.eqO (PySem.W.findIn K (.ref (He.ga K c)) nm) (some none)
theorem noRB_ok {K : PySem.W.Frag} {c nm : Str} (h : noRB c nm K = true) : NoR K c nm := ⟨none, He.eqO_ok h, .inl rfl⟩
end DL

/-! mirrors that the laws about spans share, second part (comparisons, moves) -/
namespace LC
open DL
noncomputable section
/-! Span___eq__(self, other): slots self, other -/
def m_Span___eq__ : MS := (mRet (mAnd (mIsC "Span" (mLook 1)) (mBin fEq (mFld "Span" "stretches" (mVar 0)) (mFld "Span" "stretches" (mVar 1)))))
def f_Span___eq__ : Fn := fnM 2 m_Span___eq__
/-! Span___le__(self, other): slots self, other -/
def m_Span___le__ : MS := (mSeq (mIfS (mNotT (mTru (mIsC "Span" (mLook 1)))) stk mPass)
  (mRet (mBin fEq (mCall f_combined (mCons (mFld "Span" "stretches" (mVar 0)) (mCons (mFld "Span" "stretches" (mVar 1)) (mCons (mC (.kt [(.bl false), (.bl false), (.bl true), (.bl false)])) mNil)))) (mTup mNil))))
def f_Span___le__ : Fn := fnM 2 m_Span___le__
/-! Span___lt__(self, other): slots self, other -/
def m_Span___lt__ : MS := (mSeq (mIfS (mNotT (mTru (mIsC "Span" (mLook 1)))) stk mPass)
  (mRet (mAnd (mBin fNe (mFld "Span" "stretches" (mVar 0)) (mFld "Span" "stretches" (mVar 1))) (mBin fEq (mCall f_combined (mCons (mFld "Span" "stretches" (mVar 0)) (mCons (mFld "Span" "stretches" (mVar 1)) (mCons (mC (.kt [(.bl false), (.bl false), (.bl true), (.bl false)])) mNil)))) (mTup mNil)))))
def f_Span___lt__ : Fn := fnM 2 m_Span___lt__
/-! Span___ge__(self, other): slots self, other -/
def m_Span___ge__ : MS := (mSeq (mIfS (mNotT (mTru (mIsC "Span" (mLook 1)))) stk mPass)
  (mRet (mBin fEq (mCall f_combined (mCons (mFld "Span" "stretches" (mVar 1)) (mCons (mFld "Span" "stretches" (mVar 0)) (mCons (mC (.kt [(.bl false), (.bl false), (.bl true), (.bl false)])) mNil)))) (mTup mNil))))
def f_Span___ge__ : Fn := fnM 2 m_Span___ge__
/-! Span___gt__(self, other): slots self, other -/
def m_Span___gt__ : MS := (mSeq (mIfS (mNotT (mTru (mIsC "Span" (mLook 1)))) stk mPass)
  (mRet (mAnd (mBin fNe (mFld "Span" "stretches" (mVar 0)) (mFld "Span" "stretches" (mVar 1))) (mBin fEq (mCall f_combined (mCons (mFld "Span" "stretches" (mVar 1)) (mCons (mFld "Span" "stretches" (mVar 0)) (mCons (mC (.kt [(.bl false), (.bl false), (.bl true), (.bl false)])) mNil)))) (mTup mNil)))))
def f_Span___gt__ : Fn := fnM 2 m_Span___gt__
/-! _law_orders(_law_one, _law_other, _law_due, _law_backward): slots _law_one, _law_other, _law_due, _law_backward, _law_told, _law_wanted, _law_truth -/
def m__law_orders : MS := (mSeq (mOwn 4 (mLst (mCons (mCmpO "Span" f_Span___le__ (mVar 0) (mVar 1)) (mCons (mCmpO "Span" f_Span___lt__ (mVar 0) (mVar 1)) (mCons (mCmpO "Span" f_Span___ge__ (mVar 0) (mVar 1)) (mCons (mCmpO "Span" f_Span___gt__ (mVar 0) (mVar 1)) (mCons (mCmpO "Span" f_Span___eq__ (mVar 0) (mVar 1)) (mCons (mNeO "Span" f_Span___eq__ (mVar 0) (mVar 1)) mNil))))))))
  (mSeq (mOwn 5 (mLst (mCons (mVar 2) (mCons (mAnd (mVar 2) (mNot (mVar 3))) (mCons (mVar 3) (mCons (mAnd (mVar 3) (mNot (mVar 2))) (mCons (mAnd (mVar 2) (mVar 3)) (mCons (mNot (mAnd (mVar 2) (mVar 3))) mNil))))))))
  (mRet (mAnd (mBin fEq (mVar 4) (mVar 5)) (mUn fAll (mFz (mLc (mIt (mVar 4)) (gNm 6) mYes (mUn (fIsi "bool") (mLook 6)) [6])))))))
def f__law_orders : Fn := fnM 7 m__law_orders
/-! span_moved(stretches, by): slots stretches, by, told, low, high -/
def m_span_moved : MS := (mSeq (mOwn 2 (mLc (mIt (mVar 0)) (gTp 2 (gsCons (gNm 3) (gsCons (gNm 4) gsNil))) mYes (mTup (mCons (mBin fAdd (mVar 3) (mVar 1)) (mCons (mIf (mBl (mBin fIsN (mVar 4) (mC .non))) (mC .non) (mBin fAdd (mVar 4) (mVar 1))) mNil))) [3, 4]))
  (mRet (mUn fTuple (mFz (mLc (mIt (mVar 2)) (gTp 2 (gsCons (gNm 3) (gsCons (gNm 4) gsNil))) (mOrT (mBl (mBin fIsN (mVar 4) (mC .non))) (mBl (mBin iGe (mVar 4) (mC (.int 0))))) (mTup (mCons (mIf (mBl (mBin iGt (mVar 3) (mC (.int 0)))) (mVar 3) (mC (.int 0))) (mCons (mVar 4) mNil))) [3, 4])))))
def f_span_moved : Fn := fnM 5 m_span_moved
/-! Span___lshift__(self, k): slots self, k -/
def m_Span___lshift__ : MS := (mSeq (mIfS (mNotT (mTru (mCall f_is_whole (mCons (mVar 1) mNil)))) (mRaise "BadValue" "shown" (mVar 1)) mPass)
  (mRet (mMake "Span" f_Span___init__ (mCons (mCall f_span_moved (mCons (mFld "Span" "stretches" (mVar 0)) (mCons (mUn iNeg (mVar 1)) mNil))) mNil))))
def f_Span___lshift__ : Fn := fnM 2 m_Span___lshift__
/-! _law_moved_by(_law_stretches_here, _law_by): slots _law_stretches_here, _law_by, _law_rows, _law_low, _law_high -/
def m__law_moved_by : MS := (mSeq (mOwn 2 (mLc (mIt (mVar 0)) (gTp 2 (gsCons (gNm 3) (gsCons (gNm 4) gsNil))) mYes (mTup (mCons (mBin fAdd (mVar 3) (mVar 1)) (mCons (mIf (mBl (mBin fIsN (mVar 4) (mC .non))) (mC .non) (mBin fAdd (mVar 4) (mVar 1))) mNil))) [3, 4]))
  (mRet (mCall f__law_united (mCons (mFz (mLc (mIt (mVar 2)) (gTp 2 (gsCons (gNm 3) (gsCons (gNm 4) gsNil))) (mOrT (mBl (mBin fIsN (mVar 4) (mC .non))) (mBl (mBin iGe (mVar 4) (mC (.int 0))))) (mTup (mCons (mMax2 (mCons (mC (.int 0)) (mCons (mVar 3) mNil))) (mCons (mVar 4) mNil))) [3, 4])) mNil))))
def f__law_moved_by : Fn := fnM 5 m__law_moved_by
/-! Span___rshift__(self, k): slots self, k -/
def m_Span___rshift__ : MS := (mSeq (mIfS (mNotT (mTru (mCall f_is_whole (mCons (mVar 1) mNil)))) (mRaise "BadValue" "shown" (mVar 1)) mPass)
  (mRet (mMake "Span" f_Span___init__ (mCons (mCall f_span_moved (mCons (mFld "Span" "stretches" (mVar 0)) (mCons (mVar 1) mNil))) mNil))))
def f_Span___rshift__ : Fn := fnM 2 m_Span___rshift__
/-! _law_integer(_law_pen_here): slots _law_pen_here, _law_way, _law_side -/
def m__law_integer : MS := (mSeq (mPar 1 2 (mCons (mCall f__law_draw (mCons (mVar 0) (mCons (mC (.int 9)) mNil))) (mCons (mBin iSub (mC (.int 1)) (mBin fMul (mC (.int 2)) (mCall f__law_draw (mCons (mVar 0) (mCons (mC (.int 2)) mNil))))) mNil)))
  (mSeq (mIfS (mBl (mBin fEq (mVar 1) (mC (.int 0)))) (mRet (mC (.int 0))) mPass)
  (mSeq (mIfS (mBl (mBin iLt (mVar 1) (mC (.int 6)))) (mRet (mBin fMul (mVar 2) (mCall f__law_draw (mCons (mVar 0) (mCons (mC (.int 9)) mNil))))) mPass)
  (mSeq (mIfS (mBl (mBin fEq (mVar 1) (mC (.int 6)))) (mRet (mBin fMul (mVar 2) (mCall f__law_draw (mCons (mVar 0) (mCons (mC (.int 3000)) mNil))))) mPass)
  (mRet (mBin fMul (mVar 2) (mIf (mBl (mBin fEq (mVar 1) (mC (.int 7)))) (mBin iSub (mBin iPow (mC (.int 10)) (mC (.int 60))) (mCall f__law_draw (mCons (mVar 0) (mCons (mC (.int 3)) mNil)))) (mCall f__law_great (mCons (mVar 0) (mCons (mBin iPow (mC (.int 10)) (mC (.int 60))) mNil))))))))))
def f__law_integer : Fn := fnM 3 m__law_integer
/-! Span___sub__(self, other): slots self, other -/
def m_Span___sub__ : MS := (mSeq (mIfS (mNotT (mTru (mIsC "Span" (mLook 1)))) stk mPass)
  (mRet (mMake "Span" f_Span___init__ (mCons (mCall f_combined (mCons (mFld "Span" "stretches" (mVar 0)) (mCons (mFld "Span" "stretches" (mVar 1)) (mCons (mC (.kt [(.bl false), (.bl false), (.bl true), (.bl false)])) mNil)))) mNil))))
def f_Span___sub__ : Fn := fnM 2 m_Span___sub__
/-! Span___and__(self, other): slots self, other -/
def m_Span___and__ : MS := (mSeq (mIfS (mNotT (mTru (mIsC "Span" (mLook 1)))) stk mPass)
  (mRet (mMake "Span" f_Span___init__ (mCons (mCall f_combined (mCons (mFld "Span" "stretches" (mVar 0)) (mCons (mFld "Span" "stretches" (mVar 1)) (mCons (mC (.kt [(.bl false), (.bl false), (.bl false), (.bl true)])) mNil)))) mNil))))
def f_Span___and__ : Fn := fnM 2 m_Span___and__
end
end LC

namespace SP
open PySem PySem.Spec L2 DL LC
/-! ### more operators; equality of lists of stretches -/
section
variable {i j : Nat} {t u : List Int} {f g : Int → Bool} {st : List Ob} (ht : Tp t f) (hu : Tp u g) (l1 : t.length ≤ 70) (l2 : u.length ≤ 70) (hi : st[i]? = some (spO (pD t))) (hj : st[j]? = some (spO (pD u)))
include ht hu l1 l2 hi hj
theorem and_eq : f_Span___and__ [.loc i, .loc j] st = .ok (.loc st.length) (st ++ [spO (pD (cmb kAnd t u))]) :=
  op_make hi hj (comb_pr (k := kAnd) (by omega) (by omega)) (make_pr (cmb_tp rfl ht hu) (by have := cmb_len kAnd t u; omega))
theorem sub_eq : f_Span___sub__ [.loc i, .loc j] st = .ok (.loc st.length) (st ++ [spO (pD (cmb kSub t u))]) :=
  op_make hi hj (comb_pr (k := kSub) (by omega) (by omega)) (make_pr (cmb_tp rfl ht hu) (by have := cmb_len kSub t u; omega))
end
theorem bi (x y : Int) : (x == y) = decide (x = y) := by by_cases h : x = y <;> simp [h]
theorem deq_e2 (a b : Sq) : deq 49 (eD a) (eD b) = some (decide (a = b)) := by
  obtain ⟨a, x⟩ := a
  obtain ⟨b, y⟩ := b
  cases x <;> cases y <;> simp [eD, oD, deq, deqs, sc, bi]
theorem deqs_e : ∀ (l m : List Sq), deqs (deq 49) (l.map eD) (m.map eD) = some (decide (l = m))
  | [], [] => rfl
  | [], _ :: _ => by simp [deqs]
  | _ :: _, [] => by simp [deqs]
  | a :: l, b :: m => by
    simp only [List.map_cons, deqs, deq_e2, deqs_e l m]
    by_cases h1 : a = b <;> by_cases h2 : l = m <;> simp [h1, h2]
theorem pr_inj {t u : List Int} (h : pr t = pr u) : t = u := by rw [← flat_pr t, h, flat_pr]
theorem deq_pD (t u : List Int) : deq 50 (pD t) (pD u) = some (decide (t = u)) := by
  have e : deq 50 (pD t) (pD u) = deqs (deq 49) ((pr t).map eD) ((pr u).map eD) := rfl
  rw [e, deqs_e]
  by_cases h : t = u
  · subst h; simp
  · have : ¬ pr t = pr u := fun z => h (pr_inj z)
    simp [h, this]
theorem eq_pD (t u : List Int) : fEq (pD t) (pD u) = some (.bl (decide (t = u))) := by
  have e : fEq (pD t) (pD u) = (deq 50 (pD t) (pD u)).map D.bl := rfl
  rw [e, deq_pD]
  rfl
theorem ne_pD2 (t u : List Int) : fNe (pD t) (pD u) = some (.bl (!decide (t = u))) := by
  unfold fNe
  rw [if_pos ⟨pd_pD t, pd_pD u⟩, deq_pD]
  rfl
theorem eq_none (t : List Int) : fEq (pD t) (.tup []) = some (.bl (decide (t = []))) := eq_pD t []
/-! comparisons -/
theorem eq_ins {i j : Nat} {a b : D} {v : Bool} {st : List Ob} (hi : st[i]? = some (spO a)) (hj : st[j]? = some (spO b)) (he : fEq a b = some (.bl v)) : f_Span___eq__ [.loc i, .loc j] st = .ok (.bl v) st := by
  simp [f_Span___eq__, m_Span___eq__, fnM, slots, mRet, mAnd, mIsC, mLook, cur, bnd, insAt, hj, hi, DL.ret, optB, tru, mBin, mFld, mVar, lift, he, endR]
theorem eq_oth {i : Nat} {y : D} {t : String} {a : D} {st : List Ob} (hy : tyD y = some t) (hn : ∀ n, y ≠ .loc n) : f_Span___eq__ [.loc i, y] st = .ok (.bl false) st := by
  have e : ∀ s, insAt "Span" s y = none := fun s => by cases y <;> first | rfl | exact absurd rfl (hn _)
  simp [f_Span___eq__, m_Span___eq__, fnM, slots, mRet, mAnd, mIsC, mLook, cur, bnd, e, hy, DL.ret, lift, optB, tru, endR]
theorem le_gen {fc : Fn} {i j : Nat} {a b c k : D} {v : Bool} {st : List Ob} (hi : st[i]? = some (spO a)) (hj : st[j]? = some (spO b)) (hc : fc [a, b, k] st = .ok c st) (he : fEq c (.tup []) = some (.bl v)) :
    fnM 2 (mSeq (mIfS (mNotT (mTru (mIsC "Span" (mLook 1)))) stk mPass) (mRet (mBin fEq (mCall fc (mCons (mFld "Span" "stretches" (mVar 0)) (mCons (mFld "Span" "stretches" (mVar 1)) (mCons (mC k) mNil)))) (mTup mNil)))) [.loc i, .loc j] st = .ok (.bl v) st := by
  have f0 := fld_of (sl := [.imm (.loc i), .imm (.loc j)]) hi (j := 0) rfl
  have f1 := fld_of (sl := [.imm (.loc i), .imm (.loc j)]) hj (j := 1) rfl
  show endR (mSeq _ _ ⟨[.imm (.loc i), .imm (.loc j)], st⟩) = _
  rw [seq_nx (isC_of hj rfl)]
  have f : few ([] : List D).length := by unfold few; simp
  simp only [mRet, mBin, mCons, mCall, mNil, mC, mTup, bnd, DL.ret, f0, f1, hc, outR, f, if_true, he, lift, endR]
theorem ge_gen {fc : Fn} {i j : Nat} {a b c k : D} {v : Bool} {st : List Ob} (hi : st[i]? = some (spO a)) (hj : st[j]? = some (spO b)) (hc : fc [b, a, k] st = .ok c st) (he : fEq c (.tup []) = some (.bl v)) :
    fnM 2 (mSeq (mIfS (mNotT (mTru (mIsC "Span" (mLook 1)))) stk mPass) (mRet (mBin fEq (mCall fc (mCons (mFld "Span" "stretches" (mVar 1)) (mCons (mFld "Span" "stretches" (mVar 0)) (mCons (mC k) mNil)))) (mTup mNil)))) [.loc i, .loc j] st = .ok (.bl v) st := by
  have f0 := fld_of (sl := [.imm (.loc i), .imm (.loc j)]) hi (j := 0) rfl
  have f1 := fld_of (sl := [.imm (.loc i), .imm (.loc j)]) hj (j := 1) rfl
  show endR (mSeq _ _ ⟨[.imm (.loc i), .imm (.loc j)], st⟩) = _
  rw [seq_nx (isC_of hj rfl)]
  have f : few ([] : List D).length := by unfold few; simp
  simp only [mRet, mBin, mCons, mCall, mNil, mC, mTup, bnd, DL.ret, f0, f1, hc, outR, f, if_true, he, lift, endR]
theorem lt_gen {fc : Fn} {i j : Nat} {a b c k : D} {v w : Bool} {st : List Ob} (hi : st[i]? = some (spO a)) (hj : st[j]? = some (spO b)) (hn : fNe a b = some (.bl w)) (hc : fc [a, b, k] st = .ok c st) (he : fEq c (.tup []) = some (.bl v)) :
    fnM 2 (mSeq (mIfS (mNotT (mTru (mIsC "Span" (mLook 1)))) stk mPass) (mRet (mAnd (mBin fNe (mFld "Span" "stretches" (mVar 0)) (mFld "Span" "stretches" (mVar 1))) (mBin fEq (mCall fc (mCons (mFld "Span" "stretches" (mVar 0)) (mCons (mFld "Span" "stretches" (mVar 1)) (mCons (mC k) mNil)))) (mTup mNil))))) [.loc i, .loc j] st = .ok (.bl (w && v)) st := by
  have f0 := fld_of (sl := [.imm (.loc i), .imm (.loc j)]) hi (j := 0) rfl
  have f1 := fld_of (sl := [.imm (.loc i), .imm (.loc j)]) hj (j := 1) rfl
  show endR (mSeq _ _ ⟨[.imm (.loc i), .imm (.loc j)], st⟩) = _
  rw [seq_nx (isC_of hj rfl)]
  have f : few 0 := by unfold few; simp
  cases w <;> simp [mRet, mAnd, mBin, mCons, mCall, mNil, mC, mTup, bnd, DL.ret, f0, f1, hn, hc, outR, f, he, lift, optB, tru, endR]
theorem gt_gen {fc : Fn} {i j : Nat} {a b c k : D} {v w : Bool} {st : List Ob} (hi : st[i]? = some (spO a)) (hj : st[j]? = some (spO b)) (hn : fNe a b = some (.bl w)) (hc : fc [b, a, k] st = .ok c st) (he : fEq c (.tup []) = some (.bl v)) :
    fnM 2 (mSeq (mIfS (mNotT (mTru (mIsC "Span" (mLook 1)))) stk mPass) (mRet (mAnd (mBin fNe (mFld "Span" "stretches" (mVar 0)) (mFld "Span" "stretches" (mVar 1))) (mBin fEq (mCall fc (mCons (mFld "Span" "stretches" (mVar 1)) (mCons (mFld "Span" "stretches" (mVar 0)) (mCons (mC k) mNil)))) (mTup mNil))))) [.loc i, .loc j] st = .ok (.bl (w && v)) st := by
  have f0 := fld_of (sl := [.imm (.loc i), .imm (.loc j)]) hi (j := 0) rfl
  have f1 := fld_of (sl := [.imm (.loc i), .imm (.loc j)]) hj (j := 1) rfl
  show endR (mSeq _ _ ⟨[.imm (.loc i), .imm (.loc j)], st⟩) = _
  rw [seq_nx (isC_of hj rfl)]
  have f : few 0 := by unfold few; simp
  cases w <;> simp [mRet, mAnd, mBin, mCons, mCall, mNil, mC, mTup, bnd, DL.ret, f0, f1, hn, hc, outR, f, he, lift, optB, tru, endR]
section
variable {i j : Nat} {t u : List Int} {st : List Ob} (l1 : t.length ≤ 100) (l2 : u.length ≤ 100) (hi : st[i]? = some (spO (pD t))) (hj : st[j]? = some (spO (pD u)))
include l1 l2 hi hj
theorem le_eq : f_Span___le__ [.loc i, .loc j] st = .ok (.bl (decide (cmb kSub t u = []))) st := le_gen hi hj (comb_pr (k := kSub) l1 l2) (eq_none _)
theorem ge_eq : f_Span___ge__ [.loc i, .loc j] st = .ok (.bl (decide (cmb kSub u t = []))) st := ge_gen hi hj (comb_pr (k := kSub) l2 l1) (eq_none _)
theorem lt_eq : f_Span___lt__ [.loc i, .loc j] st = .ok (.bl (!decide (t = u) && decide (cmb kSub t u = []))) st := lt_gen hi hj (ne_pD2 t u) (comb_pr (k := kSub) l1 l2) (eq_none _)
theorem gt_eq : f_Span___gt__ [.loc i, .loc j] st = .ok (.bl (!decide (t = u) && decide (cmb kSub u t = []))) st := gt_gen hi hj (ne_pD2 t u) (comb_pr (k := kSub) l2 l1) (eq_none _)
theorem eqs_eq : f_Span___eq__ [.loc i, .loc j] st = .ok (.bl (decide (t = u))) st := eq_ins hi hj (eq_pD t u)
end
end SP

namespace SP
open PySem PySem.Spec L2 DL LC
/-! ### moves -/
def sh (by_ : Int) (s : Sq) : Sq := (s.1 + by_, s.2.map (· + by_))
def kp (s : Sq) : Option Sq := match s.2 with
  | none => some (if 0 < s.1 then s.1 else 0, none)
  | some h => if 0 ≤ h then some (if 0 < s.1 then s.1 else 0, some h) else none
def mv (by_ : Int) (l : List Sq) : List Sq := (l.map (sh by_)).filterMap kp
theorem kp_ok {s r : Sq} (h : ∀ z, s.2 = some z → s.1 ≤ z) (e : kp s = some r) : okS r := by
  obtain ⟨a, b⟩ := s
  cases b with
  | none =>
    cases e
    refine ⟨?_, fun z hz => by cases hz⟩
    show 0 ≤ (if 0 < a then a else 0)
    split <;> omega
  | some b =>
    simp only [kp] at e
    have := h b rfl
    split at e
    · cases e
      refine ⟨?_, fun z hz => ?_⟩
      · show 0 ≤ (if 0 < a then a else 0)
        split <;> omega
      · cases hz
        show (if 0 < a then a else 0) ≤ b
        have : a ≤ b := this
        split <;> omega
    · cases e
theorem mv_ok {by_ : Int} {l : List Sq} (h : ∀ s ∈ l, okS s) : ∀ s ∈ mv by_ l, okS s := fun s hs => by
  obtain ⟨r, hr, e⟩ := List.mem_filterMap.mp hs
  obtain ⟨q, hq, rfl⟩ := List.mem_map.mp hr
  refine kp_ok (fun z hz => ?_) e
  obtain ⟨a, b⟩ := q
  cases b with
  | none => cases hz
  | some b =>
    cases hz
    have : a ≤ b := (h _ hq).2 b rfl
    show a + by_ ≤ b + by_
    omega
theorem mv_len (by_ : Int) (l : List Sq) : (mv by_ l).length ≤ l.length := by
  unfold mv
  have := List.length_filterMap_le kp (l.map (sh by_))
  simpa using this
def shE : ME := mTup (mCons (mBin fAdd (mVar 3) (mVar 1)) (mCons (mIf (mBl (mBin fIsN (mVar 4) (mC .non))) (mC .non) (mBin fAdd (mVar 4) (mVar 1))) mNil))
theorem shE_eq {a c : Slot} {k : Int} (s : Sq) (st : List Ob) : shE ⟨[a, .imm (.int k), c, .imm (.int s.1), .imm (oD s.2)], st⟩ = .ok (eD (sh k s)) ⟨[a, .imm (.int k), c, .imm (.int s.1), .imm (oD s.2)], st⟩ := by
  obtain ⟨x, y⟩ := s
  cases y <;> simp [shE, sh, eD, oD, mTup, mCons, mNil, mBin, fAdd, mVar, mIf, mBl, fIsN, DL.isNon, mC, bnd, DL.ret, lift, optB, isBl, few]
def kpT : MT := mOrT (mBl (mBin fIsN (mVar 4) (mC .non))) (mBl (mBin iGe (mVar 4) (mC (.int 0))))
theorem kpT_eq {a b c : Slot} (s : Sq) (st : List Ob) : kpT ⟨[a, b, c, .imm (.int s.1), .imm (oD s.2)], st⟩ = .ok (kp s).isSome ⟨[a, b, c, .imm (.int s.1), .imm (oD s.2)], st⟩ := by
  obtain ⟨x, y⟩ := s
  cases y with
  | none => simp [kpT, kp, oD, mOrT, mBl, mBin, fIsN, DL.isNon, mVar, mC, bnd, DL.ret, lift, optB, isBl]
  | some y =>
    by_cases h : 0 ≤ y <;> simp [kpT, kp, oD, mOrT, mBl, mBin, fIsN, DL.isNon, mVar, mC, bnd, DL.ret, lift, optB, isBl, iGe, intF, h]
def kpE : ME := mTup (mCons (mIf (mBl (mBin iGt (mVar 3) (mC (.int 0)))) (mVar 3) (mC (.int 0))) (mCons (mVar 4) mNil))
def kpE2 : ME := mTup (mCons (mMax2 (mCons (mC (.int 0)) (mCons (mVar 3) mNil))) (mCons (mVar 4) mNil))
theorem kpE_eq {a b c : Slot} {s r : Sq} (st : List Ob) (h : kp s = some r) : kpE ⟨[a, b, c, .imm (.int s.1), .imm (oD s.2)], st⟩ = .ok (eD r) ⟨[a, b, c, .imm (.int s.1), .imm (oD s.2)], st⟩ := by
  have e : r = (if 0 < s.1 then s.1 else 0, s.2) := by
    obtain ⟨x, y⟩ := s
    cases y with
    | none => cases h; rfl
    | some y =>
      simp only [kp] at h
      split at h
      · cases h; rfl
      · cases h
  subst e
  by_cases c : 0 < s.1 <;> simp [kpE, eD, mTup, mCons, mNil, mIf, mBl, mBin, iGt, intF, mVar, mC, bnd, DL.ret, lift, optB, isBl, few, c]
theorem kpE2_eq {a b c : Slot} {s r : Sq} (st : List Ob) (h : kp s = some r) : kpE2 ⟨[a, b, c, .imm (.int s.1), .imm (oD s.2)], st⟩ = .ok (eD r) ⟨[a, b, c, .imm (.int s.1), .imm (oD s.2)], st⟩ := by
  have e : r = (if 0 < s.1 then s.1 else 0, s.2) := by
    obtain ⟨x, y⟩ := s
    cases y with
    | none => cases h; rfl
    | some y =>
      simp only [kp] at h
      split at h
      · cases h; rfl
      · cases h
  subst e
  by_cases c : 0 < s.1 <;> simp [kpE2, eD, mTup, mCons, mNil, mMax2, mVar, mC, bnd, DL.ret, few, c]
theorem fm_some {F : D → Option D} {G : Sq → Option Sq} : ∀ (l : List Sq), (∀ s ∈ l, F (eD s) = (G s).map eD) → (l.map eD).filterMap F = (l.filterMap G).map eD
  | [], _ => rfl
  | s :: r, h => by
    have e := h s List.mem_cons_self
    have ih := fm_some r fun x hx => h x (List.mem_cons_of_mem _ hx)
    rw [List.map_cons, List.filterMap_cons, List.filterMap_cons, e, ih]
    cases G s <;> rfl
theorem c_sh {d : D} {k : Int} {l : List Sq} {st : List Ob} (hi : itD d = some (l.map eD)) (hl : l.length ≤ 1000) : mLc (mIt (mVar 0)) (gTp 2 (gsCons (gNm 3) (gsCons (gNm 4) gsNil))) mYes shE [3, 4] ⟨[.imm d, .imm (.int k), .emp, .emp, .emp], st⟩ = .ok ((l.map (sh k)).map eD) ⟨[.imm d, .imm (.int k), .emp, .emp, .emp], st⟩ := by
  rw [lc_gen (F := fun d => some (eD (sh k (dec d)))) (s := ⟨[.imm d, .imm (.int k), .emp, .emp, .emp], st⟩) (ds := l.map eD) (by simp [mIt, mVar, bnd, hi]) rfl rfl (fun z hz => by
    obtain ⟨s, _, rfl⟩ := List.mem_map.mp hz
    rw [dec_e]
    exact ⟨[(3, .int s.1), (4, oD s.2)], rfl, rfl, rfl, rfl, shE_eq s st⟩) (by unfold few; simp; omega)]
  rw [fm_map (G := fun s => eD (sh k s)) l fun s _ => by rw [dec_e]]
  simp
theorem c_kp {el : ME} {a b : D} {l : List Sq} {st : List Ob} (hel : ∀ {a b c : Slot} {s r : Sq} (st : List Ob), kp s = some r → el ⟨[a, b, c, .imm (.int s.1), .imm (oD s.2)], st⟩ = .ok (eD r) ⟨[a, b, c, .imm (.int s.1), .imm (oD s.2)], st⟩) (hl : l.length ≤ 1000) : mLc (mIt (mVar 2)) (gTp 2 (gsCons (gNm 3) (gsCons (gNm 4) gsNil))) kpT el [3, 4] ⟨[.imm a, .imm b, .own (l.map eD), .emp, .emp], st⟩ = .ok ((l.filterMap kp).map eD) ⟨[.imm a, .imm b, .imm (.lst (l.map eD)), .emp, .emp], st⟩ := by
  rw [lc_gen (F := fun d => (kp (dec d)).map eD) (s := ⟨[.imm a, .imm b, .imm (.lst (l.map eD)), .emp, .emp], st⟩) (ds := l.map eD) (by simp [mIt, mVar, bnd, itD, S.put]) rfl rfl (fun z hz => by
    obtain ⟨s, _, rfl⟩ := List.mem_map.mp hz
    refine ⟨[(3, .int s.1), (4, oD s.2)], rfl, rfl, rfl, ?_⟩
    rw [dec_e]
    have t := kpT_eq (a := .imm a) (b := .imm b) (c := .imm (.lst (l.map eD))) s st
    cases hk : kp s with
    | none => rw [hk] at t; exact t
    | some r => rw [hk] at t; exact ⟨t, hel st hk⟩) (by unfold few; simp; omega)]
  rw [fm_some (G := kp) l fun s _ => by rw [dec_e]]
end SP

namespace SP
open PySem PySem.Spec L2 DL LC
theorem mvd_gen {C1 C2 : MA} {d k : D} {ds es : List D} {st : List Ob} {s2 : S} (h1 : C1 ⟨[.imm d, .imm k, .emp, .emp, .emp], st⟩ = .ok ds ⟨[.imm d, .imm k, .emp, .emp, .emp], st⟩) (h2 : C2 ⟨[.imm d, .imm k, .own ds, .emp, .emp], st⟩ = .ok es s2) (hs : s2.st = st) :
    fnM 5 (mSeq (mOwn 2 C1) (mRet (mUn fTuple (mFz C2)))) [d, k] st = .ok (.tup es) st := by
  have a1 : mOwn 2 C1 ⟨[.imm d, .imm k, .emp, .emp, .emp], st⟩ = .ok .nx ⟨[.imm d, .imm k, .own ds, .emp, .emp], st⟩ := by
    simp only [mOwn, bnd, h1, S.put]; rfl
  show endR (mSeq _ _ ⟨[.imm d, .imm k, .emp, .emp, .emp], st⟩) = _
  rw [seq_nx a1, ret_tup h2, hs]
theorem mvl_gen {fu : Fn} {C1 C2 : MA} {d k z : D} {ds es : List D} {st : List Ob} {s2 : S} (h1 : C1 ⟨[.imm d, .imm k, .emp, .emp, .emp], st⟩ = .ok ds ⟨[.imm d, .imm k, .emp, .emp, .emp], st⟩) (h2 : C2 ⟨[.imm d, .imm k, .own ds, .emp, .emp], st⟩ = .ok es s2) (hs : s2.st = st) (h3 : fu [.lst es] st = .ok z st) :
    fnM 5 (mSeq (mOwn 2 C1) (mRet (mCall fu (mCons (mFz C2) mNil)))) [d, k] st = .ok z st := by
  have a1 : mOwn 2 C1 ⟨[.imm d, .imm k, .emp, .emp, .emp], st⟩ = .ok .nx ⟨[.imm d, .imm k, .own ds, .emp, .emp], st⟩ := by
    simp only [mOwn, bnd, h1, S.put]; rfl
  show endR (mSeq _ _ ⟨[.imm d, .imm k, .emp, .emp, .emp], st⟩) = _
  rw [seq_nx a1]
  subst hs
  simp only [mRet, mCall, mCons, mFz, mNil, bnd, h2, DL.ret, h3, outR, endR]
theorem moved_eq {d : D} {k : Int} {l : List Sq} {st : List Ob} (hi : itD d = some (l.map eD)) (hl : l.length ≤ 1000) : f_span_moved [d, .int k] st = .ok (.tup ((mv k l).map eD)) st :=
  mvd_gen (c_sh hi hl) (c_kp kpE_eq (by simp; omega)) rfl
theorem mby_eq {d : D} {k : Int} {l : List Sq} {st : List Ob} (hi : itD d = some (l.map eD)) (h : ∀ s ∈ l, okS s) (hl : l.length ≤ 30) : f__law_moved_by [d, .int k] st = .ok (pD (rowT (mv k l))) st := by
  have ml := mv_len k l
  have fl := flat_len (mv k l)
  have e := united_eq (d := .lst ((mv k l).map eD)) (l := mv k l) (st := st) rfl (by omega) (by
    have := pts_few (l := mv k l) (S := 0 :: flat (mv k l)) List.mem_cons_self (fun x hx => List.mem_cons_of_mem _ hx)
    simp at this
    omega)
  rw [law_row (mv_ok h)] at e
  exact mvl_gen (c_sh hi (by omega)) (c_kp kpE2_eq (by simp; omega)) rfl e
/-- a new span of stretches -/
theorem span_tup {l : List Sq} {st : List Ob} (h : ∀ s ∈ l, okS s) (hl : l.length ≤ 150) : f_Span___init__ [.loc st.length, .tup (l.map eD)] (st ++ [.ins "Span" []]) = .ok .non (st ++ [spO (pD (rowT l))]) := by
  have e := init_eq (n := st.length) (d := .tup (l.map eD)) (l := l) (fs := []) (st := st ++ [.ins "Span" []]) (.inl ⟨_, rfl⟩) rfl h hl (by simp) (by simp)
  rw [e]
  simp [putFD]
theorem span_lst {l : List Sq} {st : List Ob} (h : ∀ s ∈ l, okS s) (hl : l.length ≤ 150) : f_Span___init__ [.loc st.length, .lst (l.map eD)] (st ++ [.ins "Span" []]) = .ok .non (st ++ [spO (pD (rowT l))]) := by
  have e := init_eq (n := st.length) (d := .lst (l.map eD)) (l := l) (fs := []) (st := st ++ [.ins "Span" []]) (.inr ⟨_, rfl⟩) rfl h hl (by simp) (by simp)
  rw [e]
  simp [putFD]
theorem rsh_gen {fw fm fi : Fn} {rz : MS} {i : Nat} {k : Int} {a c : D} {st st' : List Ob} (hw : fw [.int k] st = .ok (.bl true) st) (hi : st[i]? = some (spO a)) (hm : fm [a, .int k] st = .ok c st) (hc : fi [.loc st.length, c] (st ++ [.ins "Span" []]) = .ok .non st') :
    fnM 2 (mSeq (mIfS (mNotT (mTru (mCall fw (mCons (mVar 1) mNil)))) rz mPass) (mRet (mMake "Span" fi (mCons (mCall fm (mCons (mFld "Span" "stretches" (mVar 0)) (mCons (mVar 1) mNil))) mNil)))) [.loc i, .int k] st = .ok (.loc st.length) st' := by
  have f0 := fld_of (sl := [.imm (.loc i), .imm (.int k)]) hi (j := 0) rfl
  have a1 : mIfS (mNotT (mTru (mCall fw (mCons (mVar 1) mNil)))) rz mPass ⟨[.imm (.loc i), .imm (.int k)], st⟩ = .ok .nx ⟨[.imm (.loc i), .imm (.int k)], st⟩ := by
    simp [mIfS, mNotT, mTru, mCall, mCons, mNil, mVar, bnd, DL.ret, hw, outR, optB, tru, mPass]
  have v1 : mVar 1 ⟨[.imm (.loc i), .imm (.int k)], st⟩ = .ok (.int k) ⟨[.imm (.loc i), .imm (.int k)], st⟩ := rfl
  show endR (mSeq _ _ ⟨[.imm (.loc i), .imm (.int k)], st⟩) = _
  rw [seq_nx a1]
  simp only [mRet, mMake, mCons, mCall, mNil, bnd, DL.ret, f0, v1, hm, outR, hc, endR]
theorem lsh_gen {fw fm fi : Fn} {rz : MS} {i : Nat} {k : Int} {a c : D} {st st' : List Ob} (hw : fw [.int k] st = .ok (.bl true) st) (hi : st[i]? = some (spO a)) (hm : fm [a, .int (-k)] st = .ok c st) (hc : fi [.loc st.length, c] (st ++ [.ins "Span" []]) = .ok .non st') :
    fnM 2 (mSeq (mIfS (mNotT (mTru (mCall fw (mCons (mVar 1) mNil)))) rz mPass) (mRet (mMake "Span" fi (mCons (mCall fm (mCons (mFld "Span" "stretches" (mVar 0)) (mCons (mUn iNeg (mVar 1)) mNil))) mNil)))) [.loc i, .int k] st = .ok (.loc st.length) st' := by
  have f0 := fld_of (sl := [.imm (.loc i), .imm (.int k)]) hi (j := 0) rfl
  have a1 : mIfS (mNotT (mTru (mCall fw (mCons (mVar 1) mNil)))) rz mPass ⟨[.imm (.loc i), .imm (.int k)], st⟩ = .ok .nx ⟨[.imm (.loc i), .imm (.int k)], st⟩ := by
    simp [mIfS, mNotT, mTru, mCall, mCons, mNil, mVar, bnd, DL.ret, hw, outR, optB, tru, mPass]
  have v1 : mUn iNeg (mVar 1) ⟨[.imm (.loc i), .imm (.int k)], st⟩ = .ok (.int (-k)) ⟨[.imm (.loc i), .imm (.int k)], st⟩ := by simp [mUn, iNeg, mVar, bnd, DL.ret, lift]
  show endR (mSeq _ _ ⟨[.imm (.loc i), .imm (.int k)], st⟩) = _
  rw [seq_nx a1]
  simp only [mRet, mMake, mCons, mCall, mNil, bnd, DL.ret, f0, v1, hm, outR, hc, endR]
section
variable {i : Nat} {t : List Int} {f : Int → Bool} {k : Int} {st : List Ob} (ht : Tp t f) (hl : t.length ≤ 100) (hi : st[i]? = some (spO (pD t)))
include ht hl hi
theorem rsh_eq : f_Span___rshift__ [.loc i, .int k] st = .ok (.loc st.length) (st ++ [spO (pD (rowT (mv k (pr t))))]) := by
  have pl := pr_len t
  have ml := mv_len k (pr t)
  exact rsh_gen (isw_int k st) hi (moved_eq (l := pr t) rfl (by omega)) (span_tup (mv_ok (pr_ok ht.up fun x hx => ht.nn hx)) (by omega))
theorem lsh_eq : f_Span___lshift__ [.loc i, .int k] st = .ok (.loc st.length) (st ++ [spO (pD (rowT (mv (-k) (pr t))))]) := by
  have pl := pr_len t
  have ml := mv_len (-k) (pr t)
  exact lsh_gen (isw_int k st) hi (moved_eq (l := pr t) rfl (by omega)) (span_tup (mv_ok (pr_ok ht.up fun x hx => ht.nn hx)) (by omega))
end
/-! ### _law_orders -/
def wantD (p b : Bool) : List D := [.bl p, .bl (p && !b), .bl b, .bl (b && !p), .bl (p && b), .bl (!(p && b))]
theorem bls_eq (p b : Bool) : fEq (.lst (wantD p b)) (.lst (wantD p b)) = some (.bl true) := by cases p <;> cases b <;> rfl
theorem or_want {x y : D} {p b : Bool} {a6 : Slot} {td : Slot} {st : List Ob} : mOwn 5 (mLst (mCons (mVar 2) (mCons (mAnd (mVar 2) (mNot (mVar 3))) (mCons (mVar 3) (mCons (mAnd (mVar 3) (mNot (mVar 2))) (mCons (mAnd (mVar 2) (mVar 3)) (mCons (mNot (mAnd (mVar 2) (mVar 3))) mNil))))))) ⟨[.imm x, .imm y, .imm (.bl p), .imm (.bl b), td, .emp, a6], st⟩ = .ok .nx ⟨[.imm x, .imm y, .imm (.bl p), .imm (.bl b), td, .own (wantD p b), a6], st⟩ := by
  cases p <;> cases b <;> simp [wantD, mOwn, mLst, mCons, mNil, mVar, mAnd, mNot, bnd, DL.ret, lift, optB, tru, few, S.put]
def toldM (f1 f2 f3 f4 f5 : Fn) : MA := mLst (mCons (mCmpO "Span" f1 (mVar 0) (mVar 1)) (mCons (mCmpO "Span" f2 (mVar 0) (mVar 1)) (mCons (mCmpO "Span" f3 (mVar 0) (mVar 1)) (mCons (mCmpO "Span" f4 (mVar 0) (mVar 1)) (mCons (mCmpO "Span" f5 (mVar 0) (mVar 1)) (mCons (mNeO "Span" f5 (mVar 0) (mVar 1)) mNil))))))
theorem cmpO_of {fn : Fn} {i j : Nat} {a b v : D} {r : List Slot} {st : List Ob} (hi : st[i]? = some (spO a)) (hj : st[j]? = some (spO b)) (h : fn [.loc i, .loc j] st = .ok v st) : mCmpO "Span" fn (mVar 0) (mVar 1) ⟨.imm (.loc i) :: .imm (.loc j) :: r, st⟩ = .ok v ⟨.imm (.loc i) :: .imm (.loc j) :: r, st⟩ := by
  simp [mCmpO, mVar, bnd, insAt, hi, hj, tyK, h, okO]
theorem neO_of {fn : Fn} {i j : Nat} {a b : D} {v : Bool} {r : List Slot} {st : List Ob} (hi : st[i]? = some (spO a)) (hj : st[j]? = some (spO b)) (h : fn [.loc i, .loc j] st = .ok (.bl v) st) : mNeO "Span" fn (mVar 0) (mVar 1) ⟨.imm (.loc i) :: .imm (.loc j) :: r, st⟩ = .ok (.bl (!v)) ⟨.imm (.loc i) :: .imm (.loc j) :: r, st⟩ := by
  simp [mNeO, mVar, bnd, insAt, hi, hj, tyK, h, nbO]
theorem cons_of {m : ME} {ms : MA} {d : D} {ds : List D} {s s1 s2 : S} (h1 : m s = .ok d s1) (h2 : ms s1 = .ok ds s2) : mCons m ms s = .ok (d :: ds) s2 := by
  simp [mCons, bnd, h1, h2, DL.ret]
theorem nil_of {s : S} : mNil s = .ok [] s := rfl
theorem lst_of {m : MA} {ds : List D} {s s1 : S} (h : m s = .ok ds s1) (hl : ds.length ≤ 1000) : mLst m s = .ok ds s1 := by
  have : few ds.length := by unfold few; omega
  simp [mLst, bnd, h, this]
theorem told_eq {f1 f2 f3 f4 f5 : Fn} {i j : Nat} {a b : D} {p q : Bool} {r : List Slot} {st : List Ob} (hi : st[i]? = some (spO a)) (hj : st[j]? = some (spO b)) (h1 : f1 [.loc i, .loc j] st = .ok (.bl p) st) (h2 : f2 [.loc i, .loc j] st = .ok (.bl (p && !q)) st) (h3 : f3 [.loc i, .loc j] st = .ok (.bl q) st) (h4 : f4 [.loc i, .loc j] st = .ok (.bl (q && !p)) st) (h5 : f5 [.loc i, .loc j] st = .ok (.bl (p && q)) st) :
    toldM f1 f2 f3 f4 f5 ⟨.imm (.loc i) :: .imm (.loc j) :: r, st⟩ = .ok (wantD p q) ⟨.imm (.loc i) :: .imm (.loc j) :: r, st⟩ :=
  lst_of (cons_of (cmpO_of hi hj h1) (cons_of (cmpO_of hi hj h2) (cons_of (cmpO_of hi hj h3) (cons_of (cmpO_of hi hj h4) (cons_of (cmpO_of hi hj h5) (cons_of (neO_of hi hj h5) nil_of)))))) (show (6 : Nat) ≤ 1000 by decide)
theorem un_fz {g : D → Option D} {m : MA} {ds : List D} {v : D} {s s' : S} (h : m s = .ok ds s') (h2 : g (.lst ds) = some v) : mUn g (mFz m) s = .ok v s' := by
  simp only [mUn, mFz, bnd, h, DL.ret, h2, lift]
theorem ord_all {x y : D} {p b : Bool} {st : List Ob} : mUn fAll (mFz (mLc (mIt (mVar 4)) (gNm 6) mYes (mUn (fIsi "bool") (mLook 6)) [6])) ⟨[.imm x, .imm y, .imm (.bl p), .imm (.bl b), .imm (.lst (wantD p b)), .imm (.lst (wantD p b)), .emp], st⟩ = .ok (.bl true) ⟨[.imm x, .imm y, .imm (.bl p), .imm (.bl b), .imm (.lst (wantD p b)), .imm (.lst (wantD p b)), .emp], st⟩ := by
  have e := lc_map (i := 6) (f := fun _ => D.bl true) (it := mIt (mVar 4)) (m := mUn (fIsi "bool") (mLook 6)) (s0 := ⟨[.imm x, .imm y, .imm (.bl p), .imm (.bl b), .imm (.lst (wantD p b)), .imm (.lst (wantD p b)), .emp], st⟩) (s := ⟨[.imm x, .imm y, .imm (.bl p), .imm (.bl b), .imm (.lst (wantD p b)), .imm (.lst (wantD p b)), .emp], st⟩) (ds := wantD p b) (by simp [mIt, mVar, bnd, itD]) rfl rfl (fun z hz => by
    simp only [wantD, List.mem_cons, List.not_mem_nil, or_false] at hz
    rcases hz with rfl | rfl | rfl | rfl | rfl | rfl <;> simp [mUn, fIsi, tyD, subT, mLook, cur, bnd, DL.ret, lift, S.put]) (show (6 : Nat) ≤ 1000000 by decide)
  have e2 : fAll (.lst ((wantD p b).map fun _ => D.bl true)) = some (.bl true) := rfl
  exact un_fz e e2
theorem ord_gen {T : MA} {x y : D} {p b : Bool} {st : List Ob} (h : T ⟨[.imm x, .imm y, .imm (.bl p), .imm (.bl b), .emp, .emp, .emp], st⟩ = .ok (wantD p b) ⟨[.imm x, .imm y, .imm (.bl p), .imm (.bl b), .emp, .emp, .emp], st⟩) :
    fnM 7 (mSeq (mOwn 4 T) (mSeq (mOwn 5 (mLst (mCons (mVar 2) (mCons (mAnd (mVar 2) (mNot (mVar 3))) (mCons (mVar 3) (mCons (mAnd (mVar 3) (mNot (mVar 2))) (mCons (mAnd (mVar 2) (mVar 3)) (mCons (mNot (mAnd (mVar 2) (mVar 3))) mNil))))))))
      (mRet (mAnd (mBin fEq (mVar 4) (mVar 5)) (mUn fAll (mFz (mLc (mIt (mVar 4)) (gNm 6) mYes (mUn (fIsi "bool") (mLook 6)) [6]))))))) [x, y, .bl p, .bl b] st = .ok (.bl true) st := by
  have a1 : mOwn 4 T ⟨[.imm x, .imm y, .imm (.bl p), .imm (.bl b), .emp, .emp, .emp], st⟩ = .ok .nx ⟨[.imm x, .imm y, .imm (.bl p), .imm (.bl b), .own (wantD p b), .emp, .emp], st⟩ := by
    simp only [mOwn, bnd, h, S.put]; rfl
  have a3 : mBin fEq (mVar 4) (mVar 5) ⟨[.imm x, .imm y, .imm (.bl p), .imm (.bl b), .own (wantD p b), .own (wantD p b), .emp], st⟩ = .ok (.bl true) ⟨[.imm x, .imm y, .imm (.bl p), .imm (.bl b), .imm (.lst (wantD p b)), .imm (.lst (wantD p b)), .emp], st⟩ := by
    have := bls_eq p b
    generalize wantD p b = L at this
    simp [mBin, mVar, bnd, S.put, this, lift, DL.ret]
  have a4 := ord_all (x := x) (y := y) (p := p) (b := b) (st := st)
  show endR (mSeq _ _ ⟨[.imm x, .imm y, .imm (.bl p), .imm (.bl b), .emp, .emp, .emp], st⟩) = _
  rw [seq_nx a1, seq_nx or_want]
  simp only [mRet, mAnd, bnd, a3, optB, tru, DL.ret, if_true, a4, endR]
theorem ord_eq {i j : Nat} {t u : List Int} {p b : Bool} {st : List Ob} (l1 : t.length ≤ 100) (l2 : u.length ≤ 100) (hi : st[i]? = some (spO (pD t))) (hj : st[j]? = some (spO (pD u))) (hp : decide (cmb kSub t u = []) = p) (hb : decide (cmb kSub u t = []) = b) (he : decide (t = u) = (p && b)) : f__law_orders [.loc i, .loc j, .bl p, .bl b] st = .ok (.bl true) st := by
  have h1 := le_eq l1 l2 hi hj
  have h2 := lt_eq l1 l2 hi hj
  have h3 := ge_eq l1 l2 hi hj
  have h4 := gt_eq l1 l2 hi hj
  have h5 := eqs_eq l1 l2 hi hj
  rw [hp] at h1 h2
  rw [hb] at h3 h4
  rw [he] at h2 h4 h5
  have q2 : (!(p && b) && p) = (p && !b) := by cases p <;> cases b <;> rfl
  have q4 : (!(p && b) && b) = (b && !p) := by cases p <;> cases b <;> rfl
  rw [q2] at h2
  rw [q4] at h4
  exact ord_gen (told_eq hi hj h1 h2 h3 h4 h5)
end SP

namespace SP
open PySem PySem.Spec L2 DL LC
/-! ### what the law's marks tell -/
theorem chg_no : ∀ (ps : List (Int × Bool)), (∀ p ∈ ps, p.2 = false) → chg false ps = []
  | [], _ => rfl
  | (p, b) :: r, h => by
    have e : b = false := h (p, b) List.mem_cons_self
    subst e
    simp only [chg, if_true]
    exact chg_no r fun q hq => h q (List.mem_cons_of_mem _ hq)
section
variable {t u : List Int} {f g : Int → Bool} (ht : Tp t f) (hu : Tp u g)
include ht hu
theorem wi_t (n : Int) : wi (pr t) n = f n := by rw [wi_pr n ht.up, ht.par]
theorem pts_nn {x : Int} (h : x ∈ pts (pr t ++ pr u)) : 0 ≤ x := by
  rcases pts_mem.mp h with rfl | h
  · exact Int.le_refl 0
  · rw [flat_app, flat_pr, flat_pr] at h
    rcases List.mem_append.mp h with h | h
    · exact ht.nn h
    · exact hu.nn h
theorem law_of {h h' : Int → Bool} {r : List Int} (hr : Tp r h') (he : ∀ n, 0 ≤ n → h n = h' n) (hm : ∀ x, h' x ≠ h' (x - 1) → x = 0 ∨ x ∈ t ∨ x ∈ u) : lawOf (pr t ++ pr u) h = r := by
  have e : lawOf (pr t ++ pr u) h = lawOf (pr t ++ pr u) h' := by
    unfold lawOf
    congr 1
    exact List.map_congr_left fun x hx => by rw [he x (pts_nn ht hu hx)]
  rw [e]
  refine Tp.uniq (f := h') ?_ hr
  refine chg_tp (pts_up _) hr.ng fun x hx => pts_mem.mpr ?_
  rcases hm x hx with z | z | z
  · exact .inl z
  · exact .inr (by rw [flat_app, flat_pr, flat_pr]; exact List.mem_append_left _ z)
  · exact .inr (by rw [flat_app, flat_pr, flat_pr]; exact List.mem_append_right _ z)
theorem law_k (k : Bool → Bool → Bool) (hk : k false false = false) : lawOf (pr t ++ pr u) (fun n => k (wi (pr t) n) (wi (pr u) n)) = cmb k t u := law_mix ht hu hk
theorem law_back : lawOf (pr t ++ pr u) (fun n => wi (pr u) n && !wi (pr t) n) = cmb kSub u t := by
  refine law_of ht hu (cmb_tp (k := kSub) rfl hu ht) (fun n _ => by rw [wi_t ht hu, wi_t hu ht]; rfl) fun x hx => ?_
  by_cases h1 : x ∈ t
  · exact .inr (.inl h1)
  · by_cases h2 : x ∈ u
    · exact .inr (.inr h2)
    · have e1 : f x = f (x - 1) := by
        by_cases z : f x = f (x - 1)
        · exact z
        · exact absurd ((ht.ch x).mpr z) h1
      have e2 : g x = g (x - 1) := by
        by_cases z : g x = g (x - 1)
        · exact z
        · exact absurd ((hu.ch x).mpr z) h2
      exact absurd (by rw [e1, e2]) hx
theorem law_not : lawOf (pr t ++ pr u) (fun n => !wi (pr t) n) = cmb kSub [0] t := by
  refine law_of ht hu (cmb_tp (k := kSub) rfl tp_all ht) (fun n hn => by rw [wi_t ht hu]; simp [kSub, hn]) fun x hx => ?_
  by_cases h1 : x ∈ t
  · exact .inr (.inl h1)
  · by_cases h0 : x = 0
    · exact .inl h0
    · have e1 : f x = f (x - 1) := by
        by_cases z : f x = f (x - 1)
        · exact z
        · exact absurd ((ht.ch x).mpr z) h1
      have e2 : decide (0 ≤ x) = decide (0 ≤ x - 1) := by
        by_cases z : 0 ≤ x
        · have : 0 ≤ x - 1 := by omega
          rw [decide_eq_true z, decide_eq_true this]
        · have : ¬ 0 ≤ x - 1 := by omega
          rw [decide_eq_false z, decide_eq_false this]
      exact absurd (by rw [e1, e2]) hx
theorem tp_none {h : Int → Bool} (e : Tp [] h) (n : Int) : h n = false := by rw [← e.par n]; rfl
theorem part_eq : decide (cmb kSub t u = []) = (((pts (pr t ++ pr u)).map fun x => wi (pr u) x || !wi (pr t) x)).all id := by
  have tc := cmb_tp (k := kSub) rfl ht hu
  by_cases c : cmb kSub t u = []
  · rw [c] at tc
    rw [decide_eq_true c]
    symm
    rw [List.all_eq_true]
    intro b hb
    obtain ⟨x, _, rfl⟩ := List.mem_map.mp hb
    have := tp_none ht hu tc x
    rw [wi_t ht hu, wi_t hu ht]
    simp only [kSub] at this
    cases h1 : f x <;> cases h2 : g x <;> simp_all
  · rw [decide_eq_false c]
    symm
    rw [← Bool.not_eq_true, List.all_eq_true]
    intro a
    apply c
    rw [← law_k ht hu kSub rfl]
    refine chg_no _ fun p hp => ?_
    obtain ⟨x, hx, rfl⟩ := List.mem_map.mp hp
    have := a _ (List.mem_map.mpr ⟨x, hx, rfl⟩)
    simp only [kSub]
    cases h1 : wi (pr t) x <;> cases h2 : wi (pr u) x <;> simp_all
theorem back_eq2 : decide (cmb kSub u t = []) = (((pts (pr t ++ pr u)).map fun x => wi (pr t) x || !wi (pr u) x)).all id := by
  have tc := cmb_tp (k := kSub) rfl hu ht
  by_cases c : cmb kSub u t = []
  · rw [c] at tc
    rw [decide_eq_true c]
    symm
    rw [List.all_eq_true]
    intro b hb
    obtain ⟨x, _, rfl⟩ := List.mem_map.mp hb
    have := tp_none ht hu tc x
    rw [wi_t ht hu, wi_t hu ht]
    simp only [kSub] at this
    cases h1 : f x <;> cases h2 : g x <;> simp_all
  · rw [decide_eq_false c]
    symm
    rw [← Bool.not_eq_true, List.all_eq_true]
    intro a
    apply c
    rw [← law_back ht hu]
    refine chg_no _ fun p hp => ?_
    obtain ⟨x, hx, rfl⟩ := List.mem_map.mp hp
    have := a _ (List.mem_map.mpr ⟨x, hx, rfl⟩)
    cases h1 : wi (pr t) x <;> cases h2 : wi (pr u) x <;> simp_all
theorem same_eq : decide (t = u) = (decide (cmb kSub t u = []) && decide (cmb kSub u t = [])) := by
  have t1 := cmb_tp (k := kSub) rfl ht hu
  have t2 := cmb_tp (k := kSub) rfl hu ht
  by_cases e : t = u
  · subst e
    have fg : ∀ n, f n = g n := fun n => by rw [← ht.par, ← hu.par]
    have z : ∀ h : Int → Bool, (∀ n, h n = false) → Tp [] h := fun h hh => tp_nil.congr fun n => (hh n).symm
    have a : cmb kSub t t = [] := t1.uniq (z _ fun n => by rw [fg]; simp [kSub])
    simp [a]
  · rw [decide_eq_false e]
    symm
    rw [← Bool.not_eq_true, Bool.and_eq_true, decide_eq_true_eq, decide_eq_true_eq]
    rintro ⟨a, b⟩
    rw [a] at t1
    rw [b] at t2
    apply e
    refine ht.uniq (hu.congr fun n => ?_)
    have := tp_none ht hu t1 n
    have := tp_none ht hu t2 n
    simp only [kSub] at *
    cases h1 : f n <;> cases h2 : g n <;> simp_all
end
end SP

namespace SP
open PySem PySem.Spec L2 DL LC
/-! ### _law_integer, _law_pick -/
theorem mul_side {s k : Int} (hs : s = 1 ∨ s = -1) (h0 : 0 ≤ k) (h1 : k < 2 ^ 4000) : fMul (.int s) (.int k) = some (.int (s * k)) := by
  have a := bits_lt h0 h1
  have b : bits s ≤ 10 := by rcases hs with rfl | rfl <;> decide +kernel
  simp only [fMul, iMul, intF]
  rw [if_pos (by omega)]
abbrev iS (w s : Int) (st : List Ob) : S := ⟨[.imm (.loc 0), .imm (.int w), .imm (.int s)], st⟩
theorem i_first {fd : Fn} {w d : Int} {st s1 s2 : List Ob} (h1 : fd [.loc 0, .int 9] st = .ok (.int w) s1) (h2 : fd [.loc 0, .int 2] s1 = .ok (.int d) s2) (hm : fMul (.int 2) (.int d) = some (.int (2 * d))) : mPar 1 2 (mCons (mCall fd (mCons (mVar 0) (mCons (mC (.int 9)) mNil))) (mCons (mBin iSub (mC (.int 1)) (mBin fMul (mC (.int 2)) (mCall fd (mCons (mVar 0) (mCons (mC (.int 2)) mNil))))) mNil)) ⟨[.imm (.loc 0), .emp, .emp], st⟩ = .ok .nx (iS w (1 - 2 * d) s2) := by
  simp [iS, mPar, mCons, mNil, mCall, mVar, mC, mBin, iSub, intF, bnd, DL.ret, h1, h2, hm, outR, lift, S.put]
theorem i_if {w s c : Int} {A B : MS} {st : List Ob} : mIfS (mBl (mBin fEq (mVar 1) (mC (.int c)))) A B (iS w s st) = if w = c then A (iS w s st) else B (iS w s st) := by
  by_cases h : w = c <;> simp [iS, mIfS, mBl, mBin, mVar, mC, bnd, DL.ret, lift, eq_int, h, optB, isBl]
theorem i_lt {w s c : Int} {A B : MS} {st : List Ob} : mIfS (mBl (mBin iLt (mVar 1) (mC (.int c)))) A B (iS w s st) = if w < c then A (iS w s st) else B (iS w s st) := by
  by_cases h : w < c <;> simp [iS, mIfS, mBl, mBin, mVar, mC, bnd, DL.ret, lift, iLt, intF, h, optB, isBl]
theorem i_ret {fd : Fn} {w s k z : Int} {c : D} {st st' : List Ob} (h : fd [.loc 0, c] st = .ok (.int k) st') (hm : fMul (.int s) (.int k) = some (.int z)) : mRet (mBin fMul (mVar 2) (mCall fd (mCons (mVar 0) (mCons (mC c) mNil)))) (iS w s st) = .ok (.rt (.int z)) (iS w s st') := by
  simp [iS, mRet, mBin, mVar, mCall, mCons, mNil, mC, bnd, DL.ret, h, outR, hm, lift]
theorem i_last {fd fg : Fn} {P : ME} {w s k z mm : Int} {st st' : List Ob} (hP : ∀ s : S, P s = .ok (.int mm) s) (h : (w = 7 ∧ ∃ d, fd [.loc 0, .int 3] st = .ok (.int d) st' ∧ k = mm - d) ∨ (¬ w = 7 ∧ fg [.loc 0, .int mm] st = .ok (.int k) st')) (hm : fMul (.int s) (.int k) = some (.int z)) :
    mRet (mBin fMul (mVar 2) (mIf (mBl (mBin fEq (mVar 1) (mC (.int 7)))) (mBin iSub P (mCall fd (mCons (mVar 0) (mCons (mC (.int 3)) mNil)))) (mCall fg (mCons (mVar 0) (mCons P mNil))))) (iS w s st) = .ok (.rt (.int z)) (iS w s st') := by
  rcases h with ⟨hw, d, h, rfl⟩ | ⟨hw, h⟩
  · simp [iS, mRet, mBin, mVar, mIf, mBl, mCall, mCons, mNil, mC, bnd, DL.ret, h, hP, outR, hm, lift, eq_int, hw, optB, isBl, iSub, intF]
  · simp [iS, mRet, mBin, mVar, mIf, mBl, mCall, mCons, mNil, mC, bnd, DL.ret, h, hP, outR, hm, lift, eq_int, hw, optB, isBl]
theorem great_lt {B : Nat} {rs st : List Ob} {mm : Int} (h : PenT B rs st) (hB : B + 7 < 2 ^ 30) (h0 : 0 < mm) (h1 : mm ≤ 1 * (10 ^ 9) ^ 7) : ∃ k st', f__law_great [.loc 0, .int mm] st = .ok (.int k) st' ∧ 0 ≤ k ∧ k < mm ∧ PenT (B + 7) rs st' := by
  obtain ⟨a, s, st', e, p⟩ := great_loop pw9 (mm := mm) (by decide) (by decide) 7 31 B 0 1 st h hB (by decide) (by decide) (by decide) (by decide) (by decide) (by decide) h1
  exact ⟨a % mm, st', great_gen h0 e, (mod_rng a h0).1, (mod_rng a h0).2, p⟩
theorem lt_big {k : Int} {e : Nat} (h : k < 2 ^ e) (he : e ≤ 4000) : k < 2 ^ 4000 := Int.lt_of_lt_of_le h (p2le he)
theorem int_all {A0 A1 A2 A3 A4 : MS} {st s1 : List Ob} {w s : Int} {z : D} {st' : List Ob} (h0 : A0 ⟨[.imm (.loc 0), .emp, .emp], st⟩ = .ok .nx (iS w s s1)) (h : (mSeq A1 (mSeq A2 (mSeq A3 A4))) (iS w s s1) = .ok (.rt z) (iS w s st')) : fnM 3 (mSeq A0 (mSeq A1 (mSeq A2 (mSeq A3 A4)))) [.loc 0] st = .ok z st' := by
  show endR (mSeq _ _ ⟨[.imm (.loc 0), .emp, .emp], st⟩) = _
  rw [seq_nx h0, h]; rfl
theorem int_eq {B : Nat} {rs st : List Ob} (h : PenT B rs st) (hB : B + 10 < 2 ^ 30) : ∃ k st', f__law_integer [.loc 0] st = .ok (.int k) st' ∧ PenT (B + 10) rs st' := by
  obtain ⟨w, s1, e1, w0, w1, t1⟩ := drawT h (by omega) (m := 9) (by omega) (by omega)
  obtain ⟨d, s2, e2, d0, d1, t2⟩ := drawT t1 (by omega) (m := 2) (by omega) (by omega)
  have hs : 1 - 2 * d = 1 ∨ 1 - 2 * d = -1 := by omega
  have m0 := mul_ok (i := 2) (j := d) (by omega) (by omega) d0 (by omega)
  have F := i_first e1 e2 m0
  generalize 1 - 2 * d = s at hs F
  by_cases c0 : w = 0
  · refine ⟨0, s2, int_all F (seq_rt (d := .int 0) ?_), t2.mono (by omega)⟩
    rw [i_if, if_pos c0]; rfl
  by_cases c1 : w < 6
  · obtain ⟨k, s3, e3, k0, k1, t3⟩ := drawT t2 (by omega) (m := 9) (by omega) (by omega)
    refine ⟨s * k, s3, int_all F ?_, t3.mono (by omega)⟩
    rw [seq_nx (s' := iS w s s2) (by rw [i_if, if_neg c0]; rfl)]
    refine seq_rt ?_
    rw [i_lt, if_pos c1]
    exact i_ret e3 (mul_side hs k0 (lt_big (e := 10) (by omega) (by omega)))
  by_cases c2 : w = 6
  · obtain ⟨k, s3, e3, k0, k1, t3⟩ := drawT t2 (by omega) (m := 3000) (by omega) (by omega)
    refine ⟨s * k, s3, int_all F ?_, t3.mono (by omega)⟩
    rw [seq_nx (s' := iS w s s2) (by rw [i_if, if_neg c0]; rfl), seq_nx (s' := iS w s s2) (by rw [i_lt, if_neg c1]; rfl)]
    refine seq_rt ?_
    rw [i_if, if_pos c2]
    exact i_ret e3 (mul_side hs k0 (lt_big (e := 12) (by omega) (by omega)))
  have pre : ∀ {z : D} {st' : List Ob} {A4 : MS}, A4 (iS w s s2) = .ok (.rt z) (iS w s st') → (mSeq (mIfS (mBl (mBin fEq (mVar 1) (mC (.int 0)))) (mRet (mC (.int 0))) mPass) (mSeq (mIfS (mBl (mBin iLt (mVar 1) (mC (.int 6)))) (mRet (mBin fMul (mVar 2) (mCall f__law_draw (mCons (mVar 0) (mCons (mC (.int 9)) mNil))))) mPass) (mSeq (mIfS (mBl (mBin fEq (mVar 1) (mC (.int 6)))) (mRet (mBin fMul (mVar 2) (mCall f__law_draw (mCons (mVar 0) (mCons (mC (.int 3000)) mNil))))) mPass) A4))) (iS w s s2) = .ok (.rt z) (iS w s st') := fun {z st' A4} k => by
    rw [seq_nx (s' := iS w s s2) (by rw [i_if, if_neg c0]; rfl), seq_nx (s' := iS w s s2) (by rw [i_lt, if_neg c1]; rfl), seq_nx (s' := iS w s s2) (by rw [i_if, if_neg c2]; rfl)]
    exact k
  by_cases c3 : w = 7
  · obtain ⟨k, s3, e3, k0, k1, t3⟩ := drawT t2 (by omega) (m := 3) (by omega) (by omega)
    refine ⟨s * (10 ^ 60 - k), s3, int_all F (pre (i_last pw60 (.inl ⟨c3, k, e3, rfl⟩) (mul_side hs ?_ ?_))), t3.mono (by omega)⟩
    · have : (3 : Int) ≤ 10 ^ 60 := by decide
      omega
    · refine lt_big (e := 200) ?_ (by omega)
      have : (10 : Int) ^ 60 < 2 ^ 200 := by decide
      omega
  · obtain ⟨k, s3, e3, k0, k1, t3⟩ := great_lt (mm := 10 ^ 60) t2 (by omega) (by decide) (by decide)
    refine ⟨s * k, s3, int_all F (pre (i_last pw60 (.inr ⟨c3, e3⟩) (mul_side hs k0 ?_))), t3.mono (by omega)⟩
    refine lt_big (e := 200) ?_ (by omega)
    have : (10 : Int) ^ 60 < 2 ^ 200 := by decide
    omega
theorem pick_gen {fd : Fn} {ds : List D} {k : D} {d : D} {st st' : List Ob} (h : fd [.loc 0, .int ds.length] st = .ok k st') (hd : ixD (.lst ds) k = some d) : fnM 2 (mRet (mIxN 1 (mCall fd (mCons (mVar 0) (mCons (mUn fLen (mLook 1)) mNil))))) [.loc 0, .lst ds] st = .ok d st' := by
  simp [fnM, mRet, mIxN, mIxV, mCall, mCons, mNil, mVar, mUn, fLen, itD, mLook, cur, bnd, DL.ret, lift, slots, h, outR, hd, endR]
theorem pickT {B : Nat} {rs st : List Ob} {ds : List D} (h : PenT B rs st) (hB : B < 2 ^ 30) (h0 : 0 < ds.length) (hl : ds.length < 1000) : ∃ d st', f__law_pick [.loc 0, .lst ds] st = .ok d st' ∧ d ∈ ds ∧ PenT (B + 1) rs st' := by
  obtain ⟨k, st', e, k0, k1, hp'⟩ := drawT (m := ds.length) h hB (by omega) (by omega)
  obtain ⟨d, hd, hm⟩ := atI_get k0 k1
  exact ⟨d, st', pick_gen e hd, hm, hp'⟩
end SP

namespace SP
open PySem PySem.Spec L2 DL LC
/-! ### the steps of k20's loop -/
structure Q where
  sc : Slot
  ag : Slot
  b : Slot
  rows : Slot
  oth : Slot
  way : Slot
  fi : Slot
  se : Slot
  on : Slot
  tw : Slot
  po : Slot
  ma : Slot
  du : Slot
  by_ : Slot
  pa : Slot
  ba : Slot
def qS (q : Q) (st : List Ob) : S := ⟨[q.sc, .imm (.loc 0), q.ag, q.b, q.rows, q.oth, q.way, q.fi, q.se, q.on, q.tw, q.po, q.ma, q.du, q.by_, q.pa, q.ba, .emp, .emp, .emp, .emp, .emp], st⟩
def cl : Slot → Bool
  | .xn _ => false
  | _ => true
structure Ok (q : Q) : Prop where
  sc : cl q.sc = true
  ag : cl q.ag = true
  b : cl q.b = true
  rows : cl q.rows = true
  oth : cl q.oth = true
  way : cl q.way = true
  fi : cl q.fi = true
  se : cl q.se = true
  on : cl q.on = true
  tw : cl q.tw = true
  po : cl q.po = true
  ma : cl q.ma = true
  du : cl q.du = true
  by_ : cl q.by_ = true
  pa : cl q.pa = true
  ba : cl q.ba = true
theorem noX_cl (s : S) : noX s = s.sl.all cl := rfl
theorem cle : cl .emp = true := rfl
theorem cli (d : D) : cl (.imm d) = true := rfl
theorem noX_q {q : Q} (h : Ok q) (st : List Ob) : noX (qS q st) = true := by
  rw [noX_cl]
  simp [qS, h.sc, h.ag, h.b, h.rows, h.oth, h.way, h.fi, h.se, h.on, h.tw, h.po, h.ma, h.du, h.by_, h.pa, h.ba, cle, cli]
variable {q : Q} {st st' s1 s2 s3 : List Ob}
theorem q_base {fb : Fn} {b : D} (h : fb [.loc 0] st = .ok b st') : mSet 3 (mCall fb (mCons (mVar 1) mNil)) (qS q st) = .ok .nx (qS { q with b := .imm b } st') := by
  simp [qS, mSet, mCall, mCons, mNil, mVar, bnd, DL.ret, h, outR, S.put]
theorem q_rows {fs : Fn} {b x y : D} (hb : q.b = .imm b) (h1 : fs [.loc 0, b] st = .ok x s1) (h2 : fs [.loc 0, b] s1 = .ok y s2) : mPar 4 5 (mCons (mCall fs (mCons (mVar 1) (mCons (mVar 3) mNil))) (mCons (mCall fs (mCons (mVar 1) (mCons (mVar 3) mNil))) mNil)) (qS q st) = .ok .nx (qS { q with rows := .imm x, oth := .imm y } s2) := by
  simp [qS, hb, mPar, mCall, mCons, mNil, mVar, bnd, DL.ret, h1, h2, outR, S.put]
theorem q_way {fd : Fn} {w c : D} (h : fd [.loc 0, c] st = .ok w st') : mSet 6 (mCall fd (mCons (mVar 1) (mCons (mC c) mNil))) (qS q st) = .ok .nx (qS { q with way := .imm w } st') := by
  simp [qS, mSet, mCall, mCons, mNil, mVar, mC, bnd, DL.ret, h, outR, S.put]
theorem q_if {w c : Int} {A B : MS} (hw : q.way = .imm (.int w)) : mIfS (mBl (mBin fEq (mVar 6) (mC (.int c)))) A B (qS q st) = if w = c then A (qS q st) else B (qS q st) := by
  by_cases h : w = c <;> simp [qS, hw, mIfS, mBl, mBin, mVar, mC, bnd, DL.ret, lift, eq_int, h, optB, isBl]
theorem q_add {x y z : D} (hx : q.rows = .imm x) (hy : q.oth = .imm y) (h : fAdd y x = some z) : mSet 5 (mBin fAdd (mVar 5) (mVar 4)) (qS q st) = .ok .nx (qS { q with oth := .imm z } st) := by
  simp [qS, hx, hy, mSet, mBin, mVar, bnd, DL.ret, lift, h, S.put]
theorem q_cut {fd : Fn} {ds : List D} {n : Int} {z : D} (hx : q.rows = .imm (.lst ds)) (h : fd [.loc 0, .int (ds.length + 1)] st = .ok (.int n) st') (hz : cutD (.lst ds) none (some n) = some z) : mSet 5 (mSlN 4 mNoP (mPart (mCall fd (mCons (mVar 1) (mCons (mBin fAdd (mUn fLen (mLook 4)) (mC (.int 1))) mNil))))) (qS q st) = .ok .nx (qS { q with oth := .imm z } st') := by
  simp [qS, hx, mSet, mSlN, mNoP, mPart, mCall, mCons, mNil, mVar, mBin, fAdd, mUn, fLen, itD, mLook, cur, mC, bnd, DL.ret, lift, h, outR, hz, S.put]
theorem q_un {fu : Fn} {x y a b : D} (hx : q.rows = .imm x) (hy : q.oth = .imm y) (h1 : fu [x] st = .ok a st) (h2 : fu [y] st = .ok b st) : mAsg (gTL 2 (gsCons (gNm 7) (gsCons (gNm 8) gsNil))) (mTup (mCons (mCall fu (mCons (mVar 4) mNil)) (mCons (mCall fu (mCons (mVar 5) mNil)) mNil))) (qS q st) = .ok .nx (qS { q with fi := .imm a, se := .imm b } st) := by
  simp [qS, hx, hy, mAsg, gTL, gsCons, gNm, gsNil, mTup, mCall, mCons, mNil, mVar, bnd, DL.ret, h1, h2, outR, few, S.puts, S.put]
theorem q_sp {fi : Fn} {x y : D} (hx : q.rows = .imm x) (hy : q.oth = .imm y) (h1 : fi [.loc st.length, x] (st ++ [.ins "Span" []]) = .ok .non s1) (h2 : fi [.loc s1.length, y] (s1 ++ [.ins "Span" []]) = .ok .non s2) : mPar 9 10 (mCons (mMake "Span" fi (mCons (mVar 4) mNil)) (mCons (mMake "Span" fi (mCons (mVar 5) mNil)) mNil)) (qS q st) = .ok .nx (qS { q with on := .imm (.loc st.length), tw := .imm (.loc s1.length) } s2) := by
  simp [qS, hx, hy, mPar, mMake, mCons, mNil, mVar, bnd, DL.ret, h1, h2, S.put]
theorem q_po {fp : Fn} {a b c p : D} (ha : q.fi = .imm a) (hb : q.se = .imm b) (hc : fAdd a b = some c) (h : fp [c] st = .ok p st) : mSet 11 (mCall fp (mCons (mBin fAdd (mVar 7) (mVar 8)) mNil)) (qS q st) = .ok .nx (qS { q with po := .imm p } st) := by
  simp [qS, ha, hb, mSet, mCall, mCons, mNil, mBin, mVar, bnd, DL.ret, lift, hc, h, outR, S.put]
/-! marks -/
theorem q_mel {fw : Fn} {a b : D} {x y : D} {n : D} (ha : q.fi = .imm a) (hb : q.se = .imm b) (h1 : fw [a, n] st = .ok x st) (h2 : fw [b, n] st = .ok y st) : mTup (mCons (mCall fw (mCons (mVar 7) (mCons (mVar 17) mNil))) (mCons (mCall fw (mCons (mVar 8) (mCons (mVar 17) mNil))) mNil)) ((qS q st).put 17 (.imm n)) = .ok (.tup [x, y]) ((qS q st).put 17 (.imm n)) := by
  simp [qS, ha, hb, mTup, mCall, mCons, mNil, mVar, bnd, DL.ret, h1, h2, outR, few, S.put]
theorem q_marks {fw : Fn} {a b : D} {p : List Int} {f g : Int → Bool} (ok : Ok q) (ha : q.fi = .imm a) (hb : q.se = .imm b) (hp : q.po = .imm (.lst (p.map .int))) (h1 : ∀ x ∈ p, fw [a, .int x] st = .ok (.bl (f x)) st) (h2 : ∀ x ∈ p, fw [b, .int x] st = .ok (.bl (g x)) st) (hl : p.length ≤ 1000) :
    mOwn 12 (mLc (mIt (mVar 11)) (gNm 17) mYes (mTup (mCons (mCall fw (mCons (mVar 7) (mCons (mVar 17) mNil))) (mCons (mCall fw (mCons (mVar 8) (mCons (mVar 17) mNil))) mNil))) [17]) (qS q st) = .ok .nx (qS { q with ma := .own ((p.map fun x => (f x, g x)).map mD) } st) := by
  have e := lc_map (i := 17) (f := fun d => match d with | .int x => mD (f x, g x) | d => d) (it := mIt (mVar 11)) (m := mTup (mCons (mCall fw (mCons (mVar 7) (mCons (mVar 17) mNil))) (mCons (mCall fw (mCons (mVar 8) (mCons (mVar 17) mNil))) mNil))) (s0 := qS q st) (s := qS q st) (ds := p.map .int) (by simp [qS, hp, mIt, mVar, bnd, itD]) rfl (noX_q ok st) (fun z hz => by
    obtain ⟨x, hx, rfl⟩ := List.mem_map.mp hz
    exact q_mel ha hb (h1 x hx) (h2 x hx)) (by unfold few; simp; omega)
  have e2 : (p.map D.int).map (fun d => match d with | .int x => mD (f x, g x) | d => d) = (p.map fun x => (f x, g x)).map mD := by simp
  rw [e2] at e
  simp only [mOwn, bnd, e]
  rfl
/-! elements over the marks -/
theorem v18 {s : S} {u v : Bool} : mVar 18 ((qS q st).puts [(18, .bl u), (19, .bl v)]) = .ok (.bl u) ((qS q st).puts [(18, .bl u), (19, .bl v)]) := rfl
theorem v19 {s : S} {u v : Bool} : mVar 19 ((qS q st).puts [(18, .bl u), (19, .bl v)]) = .ok (.bl v) ((qS q st).puts [(18, .bl u), (19, .bl v)]) := rfl
theorem m_or {a b : ME} {s : S} {u v : Bool} (h1 : a s = .ok (.bl u) s) (h2 : b s = .ok (.bl v) s) : mOr a b s = .ok (.bl (u || v)) s := by
  cases u <;> simp [mOr, bnd, h1, h2, optB, tru, DL.ret]
theorem m_and {a b : ME} {s : S} {u v : Bool} (h1 : a s = .ok (.bl u) s) (h2 : b s = .ok (.bl v) s) : mAnd a b s = .ok (.bl (u && v)) s := by
  cases u <;> simp [mAnd, bnd, h1, h2, optB, tru, DL.ret]
theorem m_not {a : ME} {s : S} {u : Bool} (h1 : a s = .ok (.bl u) s) : mNot a s = .ok (.bl (!u)) s := by
  cases u <;> simp [mNot, bnd, h1, optB, tru, DL.ret]
theorem m_ne {a b : ME} {s : S} {u v : Bool} (h1 : a s = .ok (.bl u) s) (h2 : b s = .ok (.bl v) s) : mBin fNe a b s = .ok (.bl (xor u v)) s := by
  have := ne_bl u v
  have e : (.bl (xor u v) : D) = .bl (!decide (u = v)) := by cases u <;> cases v <;> rfl
  simp [mBin, bnd, h1, h2, this, lift, DL.ret, e]
abbrev lcm (el : ME) : MA := mLc (mIt (mVar 12)) (gTp 2 (gsCons (gNm 18) (gsCons (gNm 19) gsNil))) mYes el [18, 19]
theorem fm_marks {k : Bool → Bool → Bool} : ∀ ms : List (Bool × Bool), (ms.map mD).filterMap (fun d => some (D.bl (k (decM d).1 (decM d).2))) = (ms.map fun p => k p.1 p.2).map .bl
  | [] => rfl
  | p :: r => by
    have ih := fm_marks (k := k) r
    rw [List.map_cons, List.filterMap_cons, ih]
    rfl
theorem q_lc {el : ME} {k : Bool → Bool → Bool} {ms : List (Bool × Bool)} (ok : Ok q) (hm : q.ma = .own (ms.map mD) ∨ q.ma = .imm (.lst (ms.map mD))) (hl : ms.length ≤ 1000) (hel : ∀ (q : Q) (u v : Bool), el ((qS q st).puts [(18, .bl u), (19, .bl v)]) = .ok (.bl (k u v)) ((qS q st).puts [(18, .bl u), (19, .bl v)])) :
    lcm el (qS q st) = .ok ((ms.map fun p => k p.1 p.2).map .bl) (qS { q with ma := .imm (.lst (ms.map mD)) } st) := by
  have ok2 : Ok { q with ma := .imm (.lst (ms.map mD)) } := { ok with ma := rfl }
  rw [lcm, lc_gen (F := fun d => some (.bl (k (decM d).1 (decM d).2))) (s := qS { q with ma := .imm (.lst (ms.map mD)) } st) (ds := ms.map mD) (by
    rcases hm with hm | hm <;> simp [qS, hm, mIt, mVar, bnd, itD, S.put]) (noX_q ok2 st) rfl (fun z hz => by
    obtain ⟨p, _, rfl⟩ := List.mem_map.mp hz
    refine ⟨[(18, .bl p.1), (19, .bl p.2)], rfl, ?_, rfl, rfl, hel _ _ _⟩
    have := noX_q ok2 st
    exact noX_put (noX_put this)) (by unfold few; simp; omega)]
  rw [fm_marks]
end SP

namespace SP
open PySem PySem.Spec L2 DL LC
variable {q q' : Q} {st st' s1 s2 s3 s4 : List Ob}
theorem q_op9 {fn : Fn} {x y : Nat} {a b z : D} (hx : q.on = .imm (.loc x)) (hy : q.tw = .imm (.loc y)) (c1 : st[x]? = some (spO a)) (c2 : st[y]? = some (spO b)) (h : fn [.loc x, .loc y] st = .ok z st') : mOp2 "Span" fn (mVar 9) (mVar 10) (qS q st) = .ok z (qS q st') := by
  simp [qS, hx, hy, mOp2, mVar, bnd, insAt, c1, c2, h, outR]
theorem q_op10 {fn : Fn} {x y : Nat} {a b z : D} (hx : q.on = .imm (.loc x)) (hy : q.tw = .imm (.loc y)) (c1 : st[x]? = some (spO a)) (c2 : st[y]? = some (spO b)) (h : fn [.loc y, .loc x] st = .ok z st') : mOp2 "Span" fn (mVar 10) (mVar 9) (qS q st) = .ok z (qS q st') := by
  simp [qS, hx, hy, mOp2, mVar, bnd, insAt, c1, c2, h, outR]
theorem q_inv {fn : Fn} {x : Nat} {a z : D} (hx : q.on = .imm (.loc x)) (c1 : st[x]? = some (spO a)) (h : fn [.loc x] st = .ok z st') : mOp1 "Span" fn (mVar 9) (qS q st) = .ok z (qS q st') := by
  simp [qS, hx, mOp1, mVar, bnd, insAt, c1, h, outR]
theorem tup_of {m : ME} {C : MA} {z : D} {bs : List D} {s s1 s2 : S} (h1 : m s = .ok z s1) (h2 : C s1 = .ok bs s2) : mTup (mCons m (mCons (mFz C) mNil)) s = .ok (.tup [z, .lst bs]) s2 := by
  simp [mTup, mCons, mNil, mFz, bnd, DL.ret, h1, h2, few]
theorem two_of {t1 t2 : ME} {d1 d2 : D} {s s1 s2 : S} (h1 : t1 s = .ok d1 s1) (h2 : t2 s1 = .ok d2 s2) : mLst (mCons t1 (mCons t2 mNil)) s = .ok [d1, d2] s2 := lst_of (cons_of h1 (cons_of h2 nil_of)) (show (2 : Nat) ≤ 1000 by decide)
theorem q_du1 {M : MA} {ds : List D} (h : M (qS q st) = .ok ds (qS q' st')) : mOwn 13 M (qS q st) = .ok .nx (qS { q' with du := .own ds } st') := by
  simp only [mOwn, bnd, h]; rfl
theorem v13 {ds : List D} (h : q.du = .own ds) : mVar 13 (qS q st) = .ok (.lst ds) (qS { q with du := .imm (.lst ds) } st) := by
  simp [qS, h, mVar, S.put]
theorem binF_of {a b : ME} {x y : D} {g : D → D → Option (List D)} {z : List D} {s s1 s2 : S} (h1 : a s = .ok x s1) (h2 : b s1 = .ok y s2) (h3 : g x y = some z) : mBinF g a b s = .ok z s2 := by
  simp [mBinF, bnd, h1, h2, h3]
theorem fz_of {M : MA} {ds : List D} {s s1 : S} (h : M s = .ok ds s1) : mFz M s = .ok (.lst ds) s1 := by simp [mFz, bnd, h, DL.ret]
theorem q_du2 {M : MA} {ds es : List D} (hd : q.du = .own ds) (h : M (qS { q with du := .imm (.lst ds) } st) = .ok es (qS q' st')) (hl : ds.length + es.length ≤ 1000) : mOwn 13 (mBinF lAddL (mVar 13) (mFz M)) (qS q st) = .ok .nx (qS { q' with du := .own (ds ++ es) } st') := by
  have la : lAddL (.lst ds) (.lst es) = some (ds ++ es) := by
    simp only [lAddL]
    rw [if_pos (by unfold few; omega)]
  exact q_du1 (binF_of (v13 hd) (fz_of h) la)
theorem bls_true : ∀ ds : List D, blsD (ds.map fun _ => D.bl true) = some (ds.map fun _ => true)
  | [] => rfl
  | d :: ds => by simp [blsD, bls_true ds]
theorem all_trueD (ds : List D) : fAll (.lst (ds.map fun _ => D.bl true)) = some (.bl true) := by
  simp [fAll, bls_true]
theorem fm_const (z : D) : ∀ ds : List D, ds.filterMap (fun _ => some z) = ds.map fun _ => z
  | [] => rfl
  | d :: ds => by simp [fm_const z ds]
theorem q_ael {fsi fsp : Fn} {p z : D} {n : D} {bs : D} {v : D} (hp : q.po = .imm p) (h1 : fsp [p, bs] st = .ok z st) (h2 : fsi [n, z] st = .ok v st) : mCall fsi (mCons (mVar 20) (mCons (mCall fsp (mCons (mVar 11) (mCons (mVar 21) mNil))) mNil)) ((qS q st).puts [(20, n), (21, bs)]) = .ok v ((qS q st).puts [(20, n), (21, bs)]) := by
  simp [qS, hp, mCall, mCons, mNil, mVar, bnd, DL.ret, h1, h2, outR, S.puts, S.put]
theorem q_all {fsi fsp : Fn} {p : D} {ds : List D} (ok : Ok q) (hd : q.du = .own ds) (hp : q.po = .imm p) (hl : ds.length ≤ 1000) (h : ∀ d ∈ ds, ∃ n bs z, d = .tup [n, bs] ∧ fsp [p, bs] st = .ok z st ∧ fsi [n, z] st = .ok (.bl true) st) :
    mLc (mIt (mVar 13)) (gTp 2 (gsCons (gNm 20) (gsCons (gNm 21) gsNil))) mYes (mCall fsi (mCons (mVar 20) (mCons (mCall fsp (mCons (mVar 11) (mCons (mVar 21) mNil))) mNil))) [20, 21] (qS q st) = .ok (ds.map fun _ => D.bl true) (qS { q with du := .imm (.lst ds) } st) := by
  have ok2 : Ok { q with du := .imm (.lst ds) } := { ok with du := rfl }
  rw [lc_gen (F := fun _ => some (.bl true)) (s := qS { q with du := .imm (.lst ds) } st) (ds := ds) (by simp [mIt, bnd, v13 hd, itD]) (noX_q ok2 st) rfl (fun z hz => by
    obtain ⟨n, bs, c, rfl, h1, h2⟩ := h z hz
    refine ⟨[(20, n), (21, bs)], rfl, ?_, rfl, rfl, q_ael (q := { q with du := .imm (.lst ds) }) hp h1 h2⟩
    exact noX_put (noX_put (noX_q ok2 st))) (by unfold few; omega)]
  rw [fm_const]
theorem q_check {C : MA} {ds : List D} {R : MS} (h : C (qS q st) = .ok ds (qS q' st)) (ha : fAll (.lst ds) = some (.bl true)) : mIfS (mNotT (mTru (mUn fAll (mFz C)))) R mPass (qS q st) = .ok .nx (qS q' st) := by
  have e := un_fz h ha
  simp only [mIfS, mNotT, mTru, bnd, e, optB, tru, DL.ret, Bool.not_true, Bool.false_eq_true, if_false, mPass]
theorem q_by {fp fi fd : Fn} {a b c e0 : Int} {d : D} (hb : q.b = .imm (.int e0)) (h1 : fi [.loc 0] st = .ok (.int a) s1) (h2 : fd [.loc 0, .int 30] s1 = .ok (.int b) s2) (h3 : fd [.loc 0, .int 9] s2 = .ok (.int c) s3) (h4 : fp [.loc 0, .lst [.int a, .int (-e0), .int (1 - e0 - b), .int c]] s3 = .ok d s4) :
    mSet 14 (mCall fp (mCons (mVar 1) (mCons (mFz (mLst (mCons (mCall fi (mCons (mVar 1) mNil)) (mCons (mUn iNeg (mVar 3)) (mCons (mBin iSub (mBin iSub (mC (.int 1)) (mVar 3)) (mCall fd (mCons (mVar 1) (mCons (mC (.int 30)) mNil)))) (mCons (mCall fd (mCons (mVar 1) (mCons (mC (.int 9)) mNil))) mNil)))))) mNil))) (qS q st) = .ok .nx (qS { q with by_ := .imm d } s4) := by
  simp [qS, hb, mSet, mCall, mCons, mNil, mFz, mLst, mUn, iNeg, mBin, iSub, intF, mVar, mC, bnd, DL.ret, lift, h1, h2, h3, h4, outR, few, S.put]
theorem q_rsh {fr fm fsi : Fn} {x : Nat} {k : Int} {a c z : D} {t : D} {R : MS} (hx : q.on = .imm (.loc x)) (hk : q.by_ = .imm (.int k)) (ha : q.fi = .imm a) (c1 : st[x]? = some (spO t)) (h1 : fr [.loc x, .int k] st = .ok z s1) (h2 : fm [a, .int k] s1 = .ok c s1) (h3 : fsi [z, c] s1 = .ok (.bl true) s1) :
    mIfS (mNotT (mTru (mCall fsi (mCons (mOpI "Span" fr (mVar 9) (mVar 14)) (mCons (mCall fm (mCons (mVar 7) (mCons (mVar 14) mNil))) mNil))))) R mPass (qS q st) = .ok .nx (qS q s1) := by
  simp [qS, hx, hk, ha, mIfS, mNotT, mTru, mCall, mCons, mNil, mOpI, mVar, bnd, DL.ret, insAt, c1, h1, h2, h3, outR, optB, tru, mPass]
theorem q_lsh {fr fm fsi : Fn} {x : Nat} {k : Int} {a c z : D} {t : D} {R : MS} (hx : q.on = .imm (.loc x)) (hk : q.by_ = .imm (.int k)) (ha : q.fi = .imm a) (c1 : st[x]? = some (spO t)) (h1 : fr [.loc x, .int k] st = .ok z s1) (h2 : fm [a, .int (-k)] s1 = .ok c s1) (h3 : fsi [z, c] s1 = .ok (.bl true) s1) :
    mIfS (mNotT (mTru (mCall fsi (mCons (mOpI "Span" fr (mVar 9) (mVar 14)) (mCons (mCall fm (mCons (mVar 7) (mCons (mUn iNeg (mVar 14)) mNil))) mNil))))) R mPass (qS q st) = .ok .nx (qS q s1) := by
  simp [qS, hx, hk, ha, mIfS, mNotT, mTru, mCall, mCons, mNil, mOpI, mVar, mUn, iNeg, lift, bnd, DL.ret, insAt, c1, h1, h2, h3, outR, optB, tru, mPass]
theorem par_of {m1 m2 : ME} {x y : D} {i j : Nat} {s s1 s2 : S} (h1 : m1 s = .ok x s1) (h2 : m2 s1 = .ok y s2) : mPar i j (mCons m1 (mCons m2 mNil)) s = .ok .nx ((s2.put i (.imm x)).put j (.imm y)) := by
  simp [mPar, mCons, mNil, bnd, DL.ret, h1, h2]
theorem bls_bl : ∀ bs : List Bool, blsD (bs.map .bl) = some bs
  | [] => rfl
  | b :: r => by simp [blsD, bls_bl r]
theorem all_bl (bs : List Bool) : fAll (.lst (bs.map .bl)) = some (.bl (bs.all id)) := by
  simp [fAll, bls_bl]
theorem q_parts {e1 e2 : ME} {k1 k2 : Bool → Bool → Bool} {ms : List (Bool × Bool)} (ok : Ok q) (hm : q.ma = .imm (.lst (ms.map mD))) (hl : ms.length ≤ 1000) (h1 : ∀ (q : Q) (u v : Bool), e1 ((qS q st).puts [(18, .bl u), (19, .bl v)]) = .ok (.bl (k1 u v)) ((qS q st).puts [(18, .bl u), (19, .bl v)]))
    (h2 : ∀ (q : Q) (u v : Bool), e2 ((qS q st).puts [(18, .bl u), (19, .bl v)]) = .ok (.bl (k2 u v)) ((qS q st).puts [(18, .bl u), (19, .bl v)])) :
    mPar 15 16 (mCons (mUn fAll (mFz (lcm e1))) (mCons (mUn fAll (mFz (lcm e2))) mNil)) (qS q st) = .ok .nx (qS { q with ma := .imm (.lst (ms.map mD)), pa := .imm (.bl ((ms.map fun p => k1 p.1 p.2).all id)), ba := .imm (.bl ((ms.map fun p => k2 p.1 p.2).all id)) } st) := by
  have a1 := un_fz (q_lc ok (.inr hm) hl h1) (all_bl _)
  have a2 := un_fz (q_lc (q := { q with ma := .imm (.lst (ms.map mD)) }) { ok with ma := rfl } (.inr rfl) hl h2) (all_bl _)
  exact par_of a1 a2
theorem q_ord {fo : Fn} {x y : Nat} {p b : D} {R : MS} (hx : q.on = .imm (.loc x)) (hy : q.tw = .imm (.loc y)) (hp : q.pa = .imm p) (hb : q.ba = .imm b) (h1 : fo [.loc x, .loc y, p, b] st = .ok (.bl true) st) (h2 : fo [.loc y, .loc x, b, p] st = .ok (.bl true) st) :
    mIfS (mOrT (mNotT (mTru (mCall fo (mCons (mVar 9) (mCons (mVar 10) (mCons (mVar 15) (mCons (mVar 16) mNil))))))) (mNotT (mTru (mCall fo (mCons (mVar 10) (mCons (mVar 9) (mCons (mVar 16) (mCons (mVar 15) mNil)))))))) R mPass (qS q st) = .ok .nx (qS q st) := by
  simp [qS, hx, hy, hp, hb, mIfS, mOrT, mNotT, mTru, mCall, mCons, mNil, mVar, bnd, DL.ret, h1, h2, outR, optB, tru, mPass]
theorem q_end {fsi fe : Fn} {x y : Nat} {a b t u : D} {ty : String} {R : MS} (hx : q.on = .imm (.loc x)) (hy : q.tw = .imm (.loc y)) (ha : q.fi = .imm a) (hb : q.se = .imm b) (c1 : st[x]? = some (spO t)) (c2 : st[y]? = some (spO u)) (tb : tyD b = some ty) (h1 : fsi [.loc x, a] st = .ok (.bl true) st) (h2 : fsi [.loc y, b] st = .ok (.bl true) st) (h3 : fe [.loc x, .int 3] st = .ok (.bl false) st) (h4 : fe [.loc y, b] st = .ok (.bl false) st) :
    mIfS (mOrT (mNotT (mTru (mCall fsi (mCons (mVar 9) (mCons (mVar 7) mNil))))) (mOrT (mNotT (mTru (mCall fsi (mCons (mVar 10) (mCons (mVar 8) mNil))))) (mOrT (mBl (mCmpO "Span" fe (mVar 9) (mC (.int 3)))) (mBl (mCmpO "Span" fe (mVar 10) (mVar 8)))))) R mPass (qS q st) = .ok .nx (qS q st) := by
  have ti : tyD (.int 3) = some "int" := rfl
  simp [qS, hx, hy, ha, hb, mIfS, mOrT, mNotT, mTru, mCall, mCons, mNil, mVar, mBl, mCmpO, mC, bnd, DL.ret, insAt, c1, c2, tyK, tb, ti, h1, h2, h3, h4, okO, outR, optB, tru, isBl, mPass]
end SP

namespace SP
open PySem PySem.Spec L2 DL LC
/-! ### one turn of k20's loop -/
noncomputable section
def n1 : MS := mSet 3 (mCall f__law_base (mCons (mVar 1) mNil))
def n2 : MS := mPar 4 5 (mCons (mCall f__law_stretches (mCons (mVar 1) (mCons (mVar 3) mNil))) (mCons (mCall f__law_stretches (mCons (mVar 1) (mCons (mVar 3) mNil))) mNil))
def n3 : MS := mSet 6 (mCall f__law_draw (mCons (mVar 1) (mCons (mC (.int 4)) mNil)))
def n4 : MS := mIfS (mBl (mBin fEq (mVar 6) (mC (.int 0)))) (mSet 5 (mBin fAdd (mVar 5) (mVar 4))) mPass
def n5 : MS := mIfS (mBl (mBin fEq (mVar 6) (mC (.int 1)))) (mSet 5 (mSlN 4 mNoP (mPart (mCall f__law_draw (mCons (mVar 1) (mCons (mBin fAdd (mUn fLen (mLook 4)) (mC (.int 1))) mNil)))))) mPass
def n6 : MS := mAsg (gTL 2 (gsCons (gNm 7) (gsCons (gNm 8) gsNil))) (mTup (mCons (mCall f__law_united (mCons (mVar 4) mNil)) (mCons (mCall f__law_united (mCons (mVar 5) mNil)) mNil)))
def n7 : MS := mPar 9 10 (mCons (mMake "Span" f_Span___init__ (mCons (mVar 4) mNil)) (mCons (mMake "Span" f_Span___init__ (mCons (mVar 5) mNil)) mNil))
def n8 : MS := mSet 11 (mCall f__law_points (mCons (mBin fAdd (mVar 7) (mVar 8)) mNil))
def n9 : MS := mOwn 12 (mLc (mIt (mVar 11)) (gNm 17) mYes (mTup (mCons (mCall f__law_within (mCons (mVar 7) (mCons (mVar 17) mNil))) (mCons (mCall f__law_within (mCons (mVar 8) (mCons (mVar 17) mNil))) mNil))) [17])
def n10 : MS := mOwn 13 (mLst (mCons (mTup (mCons (mOp2 "Span" f_Span___or__ (mVar 9) (mVar 10)) (mCons (mFz (lcm (mOr (mVar 18) (mVar 19)))) mNil))) (mCons (mTup (mCons (mOp2 "Span" f_Span___and__ (mVar 9) (mVar 10)) (mCons (mFz (lcm (mAnd (mVar 18) (mVar 19)))) mNil))) mNil)))
def n11 : MS := mOwn 13 (mBinF lAddL (mVar 13) (mFz (mLst (mCons (mTup (mCons (mOp2 "Span" f_Span___sub__ (mVar 9) (mVar 10)) (mCons (mFz (lcm (mAnd (mVar 18) (mNot (mVar 19))))) mNil))) (mCons (mTup (mCons (mOp2 "Span" f_Span___xor__ (mVar 9) (mVar 10)) (mCons (mFz (lcm (mBin fNe (mVar 18) (mVar 19)))) mNil))) mNil)))))
def n12 : MS := mOwn 13 (mBinF lAddL (mVar 13) (mFz (mLst (mCons (mTup (mCons (mOp1 "Span" f_Span___invert__ (mVar 9)) (mCons (mFz (lcm (mNot (mVar 18)))) mNil))) (mCons (mTup (mCons (mOp2 "Span" f_Span___sub__ (mVar 10) (mVar 9)) (mCons (mFz (lcm (mAnd (mVar 19) (mNot (mVar 18))))) mNil))) mNil)))))
def n13 : MS := mIfS (mNotT (mTru (mUn fAll (mFz (mLc (mIt (mVar 13)) (gTp 2 (gsCons (gNm 20) (gsCons (gNm 21) gsNil))) mYes (mCall f__law_span_is (mCons (mVar 20) (mCons (mCall f__law_spread (mCons (mVar 11) (mCons (mVar 21) mNil))) mNil))) [20, 21]))))) (mRet (mC (.bl false))) mPass
def n14 : MS := mSet 14 (mCall f__law_pick (mCons (mVar 1) (mCons (mFz (mLst (mCons (mCall f__law_integer (mCons (mVar 1) mNil)) (mCons (mUn iNeg (mVar 3)) (mCons (mBin iSub (mBin iSub (mC (.int 1)) (mVar 3)) (mCall f__law_draw (mCons (mVar 1) (mCons (mC (.int 30)) mNil)))) (mCons (mCall f__law_draw (mCons (mVar 1) (mCons (mC (.int 9)) mNil))) mNil)))))) mNil)))
def n15 : MS := mIfS (mNotT (mTru (mCall f__law_span_is (mCons (mOpI "Span" f_Span___rshift__ (mVar 9) (mVar 14)) (mCons (mCall f__law_moved_by (mCons (mVar 7) (mCons (mVar 14) mNil))) mNil))))) (mRet (mC (.bl false))) mPass
def n16 : MS := mIfS (mNotT (mTru (mCall f__law_span_is (mCons (mOpI "Span" f_Span___lshift__ (mVar 9) (mVar 14)) (mCons (mCall f__law_moved_by (mCons (mVar 7) (mCons (mUn iNeg (mVar 14)) mNil))) mNil))))) (mRet (mC (.bl false))) mPass
def n17 : MS := mPar 15 16 (mCons (mUn fAll (mFz (lcm (mOr (mVar 19) (mNot (mVar 18)))))) (mCons (mUn fAll (mFz (lcm (mOr (mVar 18) (mNot (mVar 19)))))) mNil))
def n18 : MS := mIfS (mOrT (mNotT (mTru (mCall f__law_orders (mCons (mVar 9) (mCons (mVar 10) (mCons (mVar 15) (mCons (mVar 16) mNil))))))) (mNotT (mTru (mCall f__law_orders (mCons (mVar 10) (mCons (mVar 9) (mCons (mVar 16) (mCons (mVar 15) mNil)))))))) (mRet (mC (.bl false))) mPass
def n19 : MS := mIfS (mOrT (mNotT (mTru (mCall f__law_span_is (mCons (mVar 9) (mCons (mVar 7) mNil))))) (mOrT (mNotT (mTru (mCall f__law_span_is (mCons (mVar 10) (mCons (mVar 8) mNil))))) (mOrT (mBl (mCmpO "Span" f_Span___eq__ (mVar 9) (mC (.int 3)))) (mBl (mCmpO "Span" f_Span___eq__ (mVar 10) (mVar 8)))))) (mRet (mC (.bl false))) mPass
def turn : MS := mSeq n1 (mSeq n2 (mSeq n3 (mSeq n4 (mSeq n5 (mSeq n6 (mSeq n7 (mSeq n8 (mSeq n9 (mSeq n10 (mSeq n11 (mSeq n12 (mSeq n13 (mSeq n14 (mSeq n15 (mSeq n16 (mSeq n17 (mSeq n18 n19)))))))))))))))))
end
/-! the others -/
theorem cut_to {ds : List D} {n : Int} (h : 0 ≤ n) (hn : n ≤ ds.length) : cutD (.lst ds) none (some n) = some (.lst (ds.take n.toNat)) := by
  have s1 : HT.sIx ds.length 0 none = 0 := by simp [HT.sIx]
  have s2 : HT.sIx ds.length ds.length (some n) = n.toNat := by
    have c : ¬ n < 0 := by omega
    simp only [HT.sIx, c, if_false]
    omega
  simp [cutD, cutL, s1, s2]
theorem add_lst {l m : List Sq} (h : l.length + m.length ≤ 1000) : fAdd (.lst (l.map eD)) (.lst (m.map eD)) = some (.lst ((l ++ m).map eD)) := by
  have : few (l.length + m.length) := by unfold few; omega
  simp [fAdd, lAddL, this]
theorem others {B : Nat} {rs st : List Ob} {q : Q} {w : Int} {l m : List Sq} (hp : PenT B rs st) (hB : B + 1 < 2 ^ 30) (hw : q.way = .imm (.int w)) (hr : q.rows = .imm (rD l)) (ho : q.oth = .imm (rD m)) (hl : okR l) (hm : okR m) (R : MS) :
    ∃ (m' : List Sq) (st' : List Ob), mSeq n4 (mSeq n5 R) (qS q st) = R (qS { q with oth := .imm (rD m') } st') ∧ (∀ s ∈ m', okS s) ∧ m'.length ≤ 16 ∧ PenT (B + 1) rs st' := by
  have q0 : q = { q with oth := .imm (rD m) } := by rw [← ho]
  by_cases w0 : w = 0
  · refine ⟨m ++ l, st, ?_, fun s hs => ?_, by have := hl.2; have := hm.2; simp; omega, hp.mono (by omega)⟩
    · have a : n4 (qS q st) = .ok .nx (qS { q with oth := .imm (rD (m ++ l)) } st) := by
        rw [n4, q_if hw, if_pos w0]; exact q_add hr ho (add_lst (by have := hl.2; have := hm.2; omega))
      have b : n5 (qS { q with oth := .imm (rD (m ++ l)) } st) = .ok .nx (qS { q with oth := .imm (rD (m ++ l)) } st) := by
        rw [n5, q_if (q := { q with oth := .imm (rD (m ++ l)) }) hw, if_neg (by omega)]; rfl
      rw [seq_nx a, seq_nx b]
    · rcases List.mem_append.mp hs with h | h
      · exact hm.1 s h
      · exact hl.1 s h
  · have a : n4 (qS q st) = .ok .nx (qS q st) := by rw [n4, q_if hw, if_neg w0]; rfl
    by_cases w1 : w = 1
    · obtain ⟨n, s1, e1, p1, p2, t1⟩ := drawT hp (by omega) (m := ((l.map eD).length : Int) + 1) (by omega) (by have := hl.2; simp; omega)
      refine ⟨l.take n.toNat, s1, ?_, fun s hs => hl.1 s (List.mem_of_mem_take hs), by have := hl.2; simp; omega, t1⟩
      have b : n5 (qS q st) = .ok .nx (qS { q with oth := .imm (rD (l.take n.toNat)) } s1) := by
        rw [n5, q_if hw, if_pos w1]
        have c := q_cut (q := q) (z := .lst ((l.map eD).take n.toNat)) hr e1 (cut_to p1 (by simp at p2 ⊢; omega))
        rw [← List.map_take] at c
        exact c
      rw [seq_nx a, seq_nx b]
    · refine ⟨m, st, ?_, hm.1, by have := hm.2; omega, hp.mono (by omega)⟩
      have b : n5 (qS q st) = .ok .nx (qS q st) := by rw [n5, q_if hw, if_neg w1]; rfl
      rw [seq_nx a, seq_nx b, ← q0]
theorem row_law2 {l : List Sq} {st : List Ob} (h : ∀ s ∈ l, okS s) (hl : l.length ≤ 30) : f__law_united [rD l] st = .ok (pD (rowT l)) st := by
  have fl := flat_len l
  have e := united_eq (d := rD l) (l := l) (st := st) rfl (by omega) (by
    have := pts_few (l := l) (S := 0 :: flat l) List.mem_cons_self (fun x hx => List.mem_cons_of_mem _ hx)
    simp at this
    omega)
  rw [law_row h] at e
  exact e
theorem add_pD {t u : List Int} (h : t.length + u.length ≤ 1000) : fAdd (pD t) (pD u) = some (.tup ((pr t ++ pr u).map eD)) := by
  have a := pr_len t
  have b := pr_len u
  have : few ((pr t).length + (pr u).length) := by unfold few; omega
  simp [fAdd, DL.tAdd, this]
theorem gl {st : List Ob} {x : Nat} {o : Ob} (h : st[x]? = some o) (z : Ob) : (st ++ [z])[x]? = some o := by
  rw [List.getElem?_append_left (List.getElem?_eq_some_iff.mp h).1]; exact h
theorem gz (st : List Ob) (z : Ob) : (st ++ [z])[st.length]? = some z := by simp
end SP

namespace SP
open PySem PySem.Spec L2 DL LC
abbrev dueD (n : Nat) (ms : List (Bool × Bool)) (k : Bool → Bool → Bool) : D := .tup [.loc n, .lst ((ms.map fun p => k p.1 p.2).map .bl)]
theorem due_ok {l : List Sq} {F G : Int → Bool} {k : Bool → Bool → Bool} {n : Nat} {r : List Int} {st : List Ob} (hp : (pts l).length < 64) (hc : st[n]? = some (spO (pD r))) (hr : lawOf l (fun x => k (F x) (G x)) = r) (hl : r.length ≤ 500) :
    ∃ m bs z, dueD n ((pts l).map fun x => (F x, G x)) k = .tup [m, bs] ∧ f__law_spread [.lst ((pts l).map .int), bs] st = .ok z st ∧ f__law_span_is [m, z] st = .ok (.bl true) st := by
  have e := spread_at (l := l) (f := fun x => k (F x) (G x)) (st := st) hp
  rw [hr] at e
  have z : (((pts l).map fun x => (F x, G x)).map fun p => k p.1 p.2) = (pts l).map fun x => k (F x) (G x) := by rw [List.map_map]; rfl
  refine ⟨_, _, _, rfl, ?_, span_is hc hl⟩
  rw [z]
  exact e
section
variable {t u : List Int} {f g : Int → Bool} {A : List Ob} {x y : Nat} {q : Q} {ms : List (Bool × Bool)}
/-- the six new spans and their marks -/
theorem dues_eq (ht : Tp t f) (hu : Tp u g) (l1 : t.length ≤ 33) (l2 : u.length ≤ 33) (ok : Ok q) (hx : q.on = .imm (.loc x)) (hy : q.tw = .imm (.loc y)) (c1 : A[x]? = some (spO (pD t))) (c2 : A[y]? = some (spO (pD u))) (hm : q.ma = .own (ms.map mD)) (hl : ms.length ≤ 1000) (R : MS) :
    mSeq n10 (mSeq n11 (mSeq n12 R)) (qS q A) = R (qS { q with ma := .imm (.lst (ms.map mD)), du := .own ([dueD A.length ms kOr, dueD (A.length + 1) ms kAnd] ++ [dueD (A.length + 2) ms kSub, dueD (A.length + 3) ms kXor] ++ [dueD (A.length + 4) ms (fun a _ => !a), dueD (A.length + 5) ms (fun a b => b && !a)]) }
      (A ++ [spO (pD (cmb kOr t u))] ++ [spO (pD (cmb kAnd t u))] ++ [spO (pD (cmb kSub t u))] ++ [spO (pD (cmb kXor t u))] ++ [spO (pD (cmb kSub [0] t))] ++ [spO (pD (cmb kSub u t))])) := by
  have ok1 : Ok { q with ma := .imm (.lst (ms.map mD)) } := { ok with ma := rfl }
  have L : ∀ (k : Bool → Bool → Bool), (cmb k t u).length ≤ 66 := fun k => by have := cmb_len k t u; omega
  -- first pair
  have o1 := or_eq ht hu (by omega) (by omega) c1 c2
  have a1 := q_lc (st := A ++ [spO (pD (cmb kOr t u))]) (el := mOr (mVar 18) (mVar 19)) (k := kOr) ok (.inl hm) hl fun q u v => m_or (v18 (s := ⟨[], []⟩)) (v19 (s := ⟨[], []⟩))
  have T1 := tup_of (q_op9 hx hy c1 c2 o1) a1
  have d1 := gl c1 (spO (pD (cmb kOr t u)))
  have d2 := gl c2 (spO (pD (cmb kOr t u)))
  have o2 := and_eq ht hu (by omega) (by omega) d1 d2
  have a2 := q_lc (q := { q with ma := .imm (.lst (ms.map mD)) }) (st := A ++ [spO (pD (cmb kOr t u))] ++ [spO (pD (cmb kAnd t u))]) (el := mAnd (mVar 18) (mVar 19)) (k := kAnd) ok1 (.inr rfl) hl fun q u v => m_and (v18 (s := ⟨[], []⟩)) (v19 (s := ⟨[], []⟩))
  have T2 := tup_of (q_op9 (q := { q with ma := .imm (.lst (ms.map mD)) }) hx hy d1 d2 o2) a2
  have P1 := q_du1 (two_of T1 T2)
  have e1 := gl d1 (spO (pD (cmb kAnd t u)))
  have e2 := gl d2 (spO (pD (cmb kAnd t u)))
  generalize hS2 : A ++ [spO (pD (cmb kOr t u))] ++ [spO (pD (cmb kAnd t u))] = S2 at P1 e1 e2 ⊢
  have len2 : S2.length = A.length + 2 := by rw [← hS2]; simp
  have n1' : (A ++ [spO (pD (cmb kOr t u))]).length = A.length + 1 := by simp
  rw [n1'] at P1
  generalize hD2 : ([D.tup [D.loc A.length, D.lst ((ms.map fun p => kOr p.1 p.2).map .bl)], D.tup [D.loc (A.length + 1), D.lst ((ms.map fun p => kAnd p.1 p.2).map .bl)]] : List D) = D2 at P1
  have D2' : [dueD A.length ms kOr, dueD (A.length + 1) ms kAnd] = D2 := hD2
  have lD2 : D2.length = 2 := by rw [← hD2]; rfl
  -- second pair
  have o3 := sub_eq ht hu (by omega) (by omega) e1 e2
  have okA : Ok { q with ma := .imm (.lst (ms.map mD)), du := .imm (.lst D2) } := { ok with ma := rfl, du := rfl }
  have a3 := q_lc (q := { q with ma := .imm (.lst (ms.map mD)), du := .imm (.lst D2) }) (st := S2 ++ [spO (pD (cmb kSub t u))]) (el := mAnd (mVar 18) (mNot (mVar 19))) (k := kSub) okA (.inr rfl) hl fun q u v => m_and (v18 (s := ⟨[], []⟩)) (m_not (v19 (s := ⟨[], []⟩)))
  have T3 := tup_of (q_op9 (q := { q with ma := .imm (.lst (ms.map mD)), du := .imm (.lst D2) }) hx hy e1 e2 o3) a3
  have f1 := gl e1 (spO (pD (cmb kSub t u)))
  have f2 := gl e2 (spO (pD (cmb kSub t u)))
  have o4 := xor_eq ht hu (by omega) (by omega) f1 f2
  have a4 := q_lc (q := { q with ma := .imm (.lst (ms.map mD)), du := .imm (.lst D2) }) (st := S2 ++ [spO (pD (cmb kSub t u))] ++ [spO (pD (cmb kXor t u))]) (el := mBin fNe (mVar 18) (mVar 19)) (k := kXor) okA (.inr rfl) hl fun q u v => m_ne (v18 (s := ⟨[], []⟩)) (v19 (s := ⟨[], []⟩))
  have T4 := tup_of (q_op9 (q := { q with ma := .imm (.lst (ms.map mD)), du := .imm (.lst D2) }) hx hy f1 f2 o4) a4
  have P2 := q_du2 (q := { q with ma := .imm (.lst (ms.map mD)), du := .own D2 }) rfl (two_of T3 T4) (by rw [lD2]; show 2 + 2 ≤ 1000; omega)
  have g1 := gl f1 (spO (pD (cmb kXor t u)))
  have g2 := gl f2 (spO (pD (cmb kXor t u)))
  have n3' : (S2 ++ [spO (pD (cmb kSub t u))]).length = A.length + 3 := by simp [len2]
  rw [n3', len2] at P2
  generalize hS4 : S2 ++ [spO (pD (cmb kSub t u))] ++ [spO (pD (cmb kXor t u))] = S4 at P2 g1 g2 ⊢
  have len4 : S4.length = A.length + 4 := by rw [← hS4]; simp [len2]
  generalize hD4 : D2 ++ ([D.tup [D.loc (A.length + 2), D.lst ((ms.map fun p => kSub p.1 p.2).map .bl)], D.tup [D.loc (A.length + 3), D.lst ((ms.map fun p => kXor p.1 p.2).map .bl)]] : List D) = D4 at P2
  have D4' : D2 ++ [dueD (A.length + 2) ms kSub, dueD (A.length + 3) ms kXor] = D4 := hD4
  have lD4 : D4.length = 4 := by rw [← hD4]; simp [lD2]
  -- third pair
  have o5 := inv_eq ht (by omega) g1
  have okB : Ok { q with ma := .imm (.lst (ms.map mD)), du := .imm (.lst D4) } := { ok with ma := rfl, du := rfl }
  have a5 := q_lc (q := { q with ma := .imm (.lst (ms.map mD)), du := .imm (.lst D4) }) (st := S4 ++ [spO (pD (cmb kSub [0] t))]) (el := mNot (mVar 18)) (k := fun a _ => !a) okB (.inr rfl) hl fun q u v => m_not (v18 (s := ⟨[], []⟩))
  have T5 := tup_of (q_inv (q := { q with ma := .imm (.lst (ms.map mD)), du := .imm (.lst D4) }) hx g1 o5) a5
  have h1 := gl g1 (spO (pD (cmb kSub [0] t)))
  have h2 := gl g2 (spO (pD (cmb kSub [0] t)))
  have o6 := sub_eq hu ht (by omega) (by omega) h2 h1
  have a6 := q_lc (q := { q with ma := .imm (.lst (ms.map mD)), du := .imm (.lst D4) }) (st := S4 ++ [spO (pD (cmb kSub [0] t))] ++ [spO (pD (cmb kSub u t))]) (el := mAnd (mVar 19) (mNot (mVar 18))) (k := fun a b => b && !a) okB (.inr rfl) hl fun q u v => m_and (v19 (s := ⟨[], []⟩)) (m_not (v18 (s := ⟨[], []⟩)))
  have T6 := tup_of (q_op10 (q := { q with ma := .imm (.lst (ms.map mD)), du := .imm (.lst D4) }) hx hy h1 h2 o6) a6
  have P3 := q_du2 (q := { q with ma := .imm (.lst (ms.map mD)), du := .own D4 }) rfl (two_of T5 T6) (by rw [lD4]; show 4 + 2 ≤ 1000; omega)
  have n5' : (S4 ++ [spO (pD (cmb kSub [0] t))]).length = A.length + 5 := by simp [len4]
  rw [n5', len4] at P3
  rw [n10, seq_nx P1, n11, seq_nx P2, n12, seq_nx P3]
end
end SP

namespace SP
open PySem PySem.Spec L2 DL LC
theorem row_len {l : List Sq} (h : ∀ s ∈ l, okS s) : (rowT l).length ≤ 2 * l.length := Nat.le_trans (up_len (row_tp h).up fun x hx => row_in h hx) (flat_len l)
/-- from the points on: all but the last draws -/
theorem half {t u : List Int} {f g : Int → Bool} {A : List Ob} {x y : Nat} {q : Q} (ht : Tp t f) (hu : Tp u g) (l1 : t.length ≤ 33) (l2 : u.length ≤ 33) (hP : (pts (pr t ++ pr u)).length < 64) (ok : Ok q) (hf : q.fi = .imm (pD t)) (hs : q.se = .imm (pD u)) (hx : q.on = .imm (.loc x)) (hy : q.tw = .imm (.loc y)) (c1 : A[x]? = some (spO (pD t))) (c2 : A[y]? = some (spO (pD u))) (R : MS) :
    ∃ du : Slot, cl du = true ∧ mSeq n8 (mSeq n9 (mSeq n10 (mSeq n11 (mSeq n12 (mSeq n13 R))))) (qS q A) = R (qS { q with po := .imm (.lst ((pts (pr t ++ pr u)).map .int)), ma := .imm (.lst (((pts (pr t ++ pr u)).map fun x => (wi (pr t) x, wi (pr u) x)).map mD)), du := du }
      (A ++ [spO (pD (cmb kOr t u))] ++ [spO (pD (cmb kAnd t u))] ++ [spO (pD (cmb kSub t u))] ++ [spO (pD (cmb kXor t u))] ++ [spO (pD (cmb kSub [0] t))] ++ [spO (pD (cmb kSub u t))])) := by
  have pl := pr_len t
  have pm := pr_len u
  have S8 := q_po (st := A) hf hs (add_pD (by omega)) (points_eq (d := .tup ((pr t ++ pr u).map eD)) (l := pr t ++ pr u) rfl (by simp; omega) hP)
  have ok8 : Ok { q with po := .imm (.lst ((pts (pr t ++ pr u)).map .int)) } := { ok with po := rfl }
  have S9 := q_marks (st := A) (fw := f__law_within) (p := pts (pr t ++ pr u)) (f := wi (pr t)) (g := wi (pr u)) ok8 hf hs rfl (fun n _ => within_eq (d := pD t) (l := pr t) rfl (by omega)) (fun n _ => within_eq (d := pD u) (l := pr u) rfl (by omega)) (by omega)
  have lm : ((pts (pr t ++ pr u)).map fun x => (wi (pr t) x, wi (pr u) x)).length ≤ 1000 := by simp; omega
  have DD := dues_eq (q := { q with po := .imm (.lst ((pts (pr t ++ pr u)).map .int)), ma := .own (((pts (pr t ++ pr u)).map fun x => (wi (pr t) x, wi (pr u) x)).map mD) }) ht hu l1 l2 { ok with po := rfl, ma := rfl } hx hy c1 c2 rfl lm (mSeq n13 R)
  have k1 := law_k ht hu kOr rfl
  have k2 := law_k ht hu kAnd rfl
  have k3 := law_k ht hu kSub rfl
  have k4 := law_k ht hu kXor rfl
  have k5 := law_not ht hu
  have k6 := law_back ht hu
  have L : ∀ (k : Bool → Bool → Bool), (cmb k t u).length ≤ 66 := fun k => by have := cmb_len k t u; omega
  have L5 : (cmb kSub [0] t).length ≤ 66 := by have := cmb_len kSub [0] t; simp at this; omega
  have L6 : (cmb kSub u t).length ≤ 66 := by have := cmb_len kSub u t; omega
  have g1 : (A ++ [spO (pD (cmb kOr t u))] ++ [spO (pD (cmb kAnd t u))] ++ [spO (pD (cmb kSub t u))] ++ [spO (pD (cmb kXor t u))] ++ [spO (pD (cmb kSub [0] t))] ++ [spO (pD (cmb kSub u t))])[A.length]? = some (spO (pD (cmb kOr t u))) := gl (gl (gl (gl (gl (gz _ _) _) _) _) _) _
  have g2 : (A ++ [spO (pD (cmb kOr t u))] ++ [spO (pD (cmb kAnd t u))] ++ [spO (pD (cmb kSub t u))] ++ [spO (pD (cmb kXor t u))] ++ [spO (pD (cmb kSub [0] t))] ++ [spO (pD (cmb kSub u t))])[A.length + 1]? = some (spO (pD (cmb kAnd t u))) := by
    have := gz (A ++ [spO (pD (cmb kOr t u))]) (spO (pD (cmb kAnd t u)))
    rw [List.length_append] at this
    exact gl (gl (gl (gl this _) _) _) _
  have g3 : (A ++ [spO (pD (cmb kOr t u))] ++ [spO (pD (cmb kAnd t u))] ++ [spO (pD (cmb kSub t u))] ++ [spO (pD (cmb kXor t u))] ++ [spO (pD (cmb kSub [0] t))] ++ [spO (pD (cmb kSub u t))])[A.length + 2]? = some (spO (pD (cmb kSub t u))) := by
    have := gz (A ++ [spO (pD (cmb kOr t u))] ++ [spO (pD (cmb kAnd t u))]) (spO (pD (cmb kSub t u)))
    rw [List.length_append, List.length_append] at this
    exact gl (gl (gl this _) _) _
  have g4 : (A ++ [spO (pD (cmb kOr t u))] ++ [spO (pD (cmb kAnd t u))] ++ [spO (pD (cmb kSub t u))] ++ [spO (pD (cmb kXor t u))] ++ [spO (pD (cmb kSub [0] t))] ++ [spO (pD (cmb kSub u t))])[A.length + 3]? = some (spO (pD (cmb kXor t u))) := by
    have := gz (A ++ [spO (pD (cmb kOr t u))] ++ [spO (pD (cmb kAnd t u))] ++ [spO (pD (cmb kSub t u))]) (spO (pD (cmb kXor t u)))
    rw [List.length_append, List.length_append, List.length_append] at this
    exact gl (gl this _) _
  have g5 : (A ++ [spO (pD (cmb kOr t u))] ++ [spO (pD (cmb kAnd t u))] ++ [spO (pD (cmb kSub t u))] ++ [spO (pD (cmb kXor t u))] ++ [spO (pD (cmb kSub [0] t))] ++ [spO (pD (cmb kSub u t))])[A.length + 4]? = some (spO (pD (cmb kSub [0] t))) := by
    have := gz (A ++ [spO (pD (cmb kOr t u))] ++ [spO (pD (cmb kAnd t u))] ++ [spO (pD (cmb kSub t u))] ++ [spO (pD (cmb kXor t u))]) (spO (pD (cmb kSub [0] t)))
    rw [List.length_append, List.length_append, List.length_append, List.length_append] at this
    exact gl this _
  have g6 : (A ++ [spO (pD (cmb kOr t u))] ++ [spO (pD (cmb kAnd t u))] ++ [spO (pD (cmb kSub t u))] ++ [spO (pD (cmb kXor t u))] ++ [spO (pD (cmb kSub [0] t))] ++ [spO (pD (cmb kSub u t))])[A.length + 5]? = some (spO (pD (cmb kSub u t))) := by
    have := gz (A ++ [spO (pD (cmb kOr t u))] ++ [spO (pD (cmb kAnd t u))] ++ [spO (pD (cmb kSub t u))] ++ [spO (pD (cmb kXor t u))] ++ [spO (pD (cmb kSub [0] t))]) (spO (pD (cmb kSub u t)))
    rw [List.length_append, List.length_append, List.length_append, List.length_append, List.length_append] at this
    exact this
  generalize A ++ [spO (pD (cmb kOr t u))] ++ [spO (pD (cmb kAnd t u))] ++ [spO (pD (cmb kSub t u))] ++ [spO (pD (cmb kXor t u))] ++ [spO (pD (cmb kSub [0] t))] ++ [spO (pD (cmb kSub u t))] = Z at DD g1 g2 g3 g4 g5 g6 ⊢
  have w1 := due_ok (F := wi (pr t)) (G := wi (pr u)) (k := kOr) hP g1 k1 (by have := L kOr; omega)
  have w2 := due_ok (F := wi (pr t)) (G := wi (pr u)) (k := kAnd) hP g2 k2 (by have := L kAnd; omega)
  have w3 := due_ok (F := wi (pr t)) (G := wi (pr u)) (k := kSub) hP g3 k3 (by have := L kSub; omega)
  have w4 := due_ok (F := wi (pr t)) (G := wi (pr u)) (k := kXor) hP g4 k4 (by have := L kXor; omega)
  have w5 := due_ok (F := wi (pr t)) (G := wi (pr u)) (k := fun a _ => !a) hP g5 k5 (by omega)
  have w6 := due_ok (F := wi (pr t)) (G := wi (pr u)) (k := fun a b => b && !a) hP g6 k6 (by omega)
  generalize hE : ([dueD A.length ((pts (pr t ++ pr u)).map fun x => (wi (pr t) x, wi (pr u) x)) kOr, dueD (A.length + 1) ((pts (pr t ++ pr u)).map fun x => (wi (pr t) x, wi (pr u) x)) kAnd] ++ [dueD (A.length + 2) ((pts (pr t ++ pr u)).map fun x => (wi (pr t) x, wi (pr u) x)) kSub, dueD (A.length + 3) ((pts (pr t ++ pr u)).map fun x => (wi (pr t) x, wi (pr u) x)) kXor] ++ [dueD (A.length + 4) ((pts (pr t ++ pr u)).map fun x => (wi (pr t) x, wi (pr u) x)) (fun a _ => !a), dueD (A.length + 5) ((pts (pr t ++ pr u)).map fun x => (wi (pr t) x, wi (pr u) x)) (fun a b => b && !a)] : List D) = EE at DD
  have lE : EE.length = 6 := by rw [← hE]; rfl
  have aE : ∀ d ∈ EE, ∃ n bs z, d = .tup [n, bs] ∧ f__law_spread [.lst ((pts (pr t ++ pr u)).map .int), bs] Z = .ok z Z ∧ f__law_span_is [n, z] Z = .ok (.bl true) Z := fun d hd => by
    rw [← hE] at hd
    simp only [List.cons_append, List.nil_append, List.mem_cons, List.not_mem_nil, or_false] at hd
    rcases hd with h | h | h | h | h | h <;> rw [h]
    · exact w1
    · exact w2
    · exact w3
    · exact w4
    · exact w5
    · exact w6
  have C := q_all (q := { q with po := .imm (.lst ((pts (pr t ++ pr u)).map .int)), ma := .imm (.lst (((pts (pr t ++ pr u)).map fun x => (wi (pr t) x, wi (pr u) x)).map mD)), du := .own EE }) (st := Z) { ok with po := rfl, ma := rfl, du := rfl } rfl rfl (by omega) aE
  have C2 := q_check (R := mRet (mC (.bl false))) C (all_trueD EE)
  refine ⟨.imm (.lst EE), rfl, ?_⟩
  rw [n8, seq_nx S8, n9, seq_nx S9, DD, n13, seq_nx C2]
end SP

namespace SP
open PySem PySem.Spec L2 DL LC
/-- the second half of a turn -/
theorem rest_ok {t u : List Int} {f g : Int → Bool} {rs st : List Ob} {B n m : Nat} {q : Q} {b : Int} (ht : Tp t f) (hu : Tp u g) (l1 : t.length ≤ 33) (l2 : u.length ≤ 33) (l1' : t.length ≤ 30) (hP : (pts (pr t ++ pr u)).length < 64) (ok : Ok q) (hb : q.b = .imm (.int b)) (hf : q.fi = .imm (pD t)) (hs : q.se = .imm (pD u)) (hx : q.on = .imm (.loc (n + 1))) (hy : q.tw = .imm (.loc (m + 1)))
    (hma : q.ma = .imm (.lst (((pts (pr t ++ pr u)).map fun x => (wi (pr t) x, wi (pr u) x)).map mD))) (hp : PenT B rs st) (hB : B + 20 < 2 ^ 30) (c1 : rs[n]? = some (spO (pD t))) (c2 : rs[m]? = some (spO (pD u))) :
    ∃ q' rs' st', mSeq n14 (mSeq n15 (mSeq n16 (mSeq n17 (mSeq n18 n19)))) (qS q st) = .ok .nx (qS q' st') ∧ Ok q' ∧ PenT (B + 20) rs' st' := by
  obtain ⟨a, s1, e1, p1⟩ := int_eq hp (by omega)
  obtain ⟨x2, s2, e2, _, _, p2⟩ := drawT p1 (by omega) (m := 30) (by omega) (by omega)
  obtain ⟨x3, s3, e3, _, _, p3⟩ := drawT p2 (by omega) (m := 9) (by omega) (by omega)
  obtain ⟨d, s4, e4, dm, p4⟩ := pickT (ds := [.int a, .int (-b), .int (1 - b - x2), .int x3]) p3 (by omega) (by simp) (by simp)
  obtain ⟨k, rfl⟩ : ∃ k, d = .int k := by
    simp only [List.mem_cons, List.not_mem_nil, or_false] at dm
    rcases dm with h | h | h | h <;> exact ⟨_, h⟩
  have S14 := q_by hb e1 e2 e3 e4
  have pl := pr_len t
  have tk := pr_ok ht.up fun x hx => ht.nn hx
  -- >>
  have a1 : s4[n + 1]? = some (spO (pD t)) := by rw [p4.at]; exact c1
  have r1 := rsh_eq (k := k) ht (by omega) a1
  have m1 := mby_eq (d := pD t) (k := k) (l := pr t) (st := s4 ++ [spO (pD (rowT (mv k (pr t))))]) rfl tk (by omega)
  have ml := mv_len k (pr t)
  have ml' := mv_len (-k) (pr t)
  have y1 := span_is (gz s4 (spO (pD (rowT (mv k (pr t)))))) (by have := row_len (mv_ok (by_ := k) tk); omega)
  have S15 := q_rsh (q := { q with by_ := .imm (.int k) }) (R := mRet (mC (.bl false))) hx rfl hf a1 r1 m1 y1
  -- <<
  have p5 := p4.app [spO (pD (rowT (mv k (pr t))))]
  have c1' := gl c1 (spO (pD (rowT (mv k (pr t)))))
  have c2' := gl c2 (spO (pD (rowT (mv k (pr t)))))
  generalize s4 ++ [spO (pD (rowT (mv k (pr t))))] = s5 at S15 p5
  generalize rs ++ [spO (pD (rowT (mv k (pr t))))] = rs5 at p5 c1' c2'
  have a2 : s5[n + 1]? = some (spO (pD t)) := by rw [p5.at]; exact c1'
  have r2 := lsh_eq (k := k) ht (by omega) a2
  have m2 := mby_eq (d := pD t) (k := -k) (l := pr t) (st := s5 ++ [spO (pD (rowT (mv (-k) (pr t))))]) rfl tk (by omega)
  have y2 := span_is (gz s5 (spO (pD (rowT (mv (-k) (pr t)))))) (by have := row_len (mv_ok (by_ := -k) tk); omega)
  have S16 := q_lsh (q := { q with by_ := .imm (.int k) }) (R := mRet (mC (.bl false))) hx rfl hf a2 r2 m2 y2
  have p6 := p5.app [spO (pD (rowT (mv (-k) (pr t))))]
  have c1'' := gl c1' (spO (pD (rowT (mv (-k) (pr t)))))
  have c2'' := gl c2' (spO (pD (rowT (mv (-k) (pr t)))))
  generalize s5 ++ [spO (pD (rowT (mv (-k) (pr t))))] = s6 at S16 p6
  generalize rs5 ++ [spO (pD (rowT (mv (-k) (pr t))))] = rs6 at p6 c1'' c2''
  have b1 : s6[n + 1]? = some (spO (pD t)) := by rw [p6.at]; exact c1''
  have b2 : s6[m + 1]? = some (spO (pD u)) := by rw [p6.at]; exact c2''
  -- parts
  have lm : ((pts (pr t ++ pr u)).map fun x => (wi (pr t) x, wi (pr u) x)).length ≤ 1000 := by simp; omega
  have S17 := q_parts (q := { q with by_ := .imm (.int k) }) (st := s6) (e1 := mOr (mVar 19) (mNot (mVar 18))) (e2 := mOr (mVar 18) (mNot (mVar 19))) (k1 := fun a b => b || !a) (k2 := fun a b => a || !b) { ok with by_ := rfl } hma lm (fun q u v => m_or (v19 (s := ⟨[], []⟩)) (m_not (v18 (s := ⟨[], []⟩)))) (fun q u v => m_or (v18 (s := ⟨[], []⟩)) (m_not (v19 (s := ⟨[], []⟩))))
  have h1 := part_eq ht hu
  have h2 := back_eq2 ht hu
  have z1 : (((pts (pr t ++ pr u)).map fun x => (wi (pr t) x, wi (pr u) x)).map fun p => (fun a b => b || !a) p.1 p.2) = (pts (pr t ++ pr u)).map fun x => wi (pr u) x || !wi (pr t) x := by rw [List.map_map]; rfl
  have z2 : (((pts (pr t ++ pr u)).map fun x => (wi (pr t) x, wi (pr u) x)).map fun p => (fun a b => a || !b) p.1 p.2) = (pts (pr t ++ pr u)).map fun x => wi (pr t) x || !wi (pr u) x := by rw [List.map_map]; rfl
  rw [z1, z2, ← h1, ← h2] at S17
  have se := same_eq ht hu
  have se2 := same_eq hu ht
  have o1 := ord_eq (by omega) (by omega) b1 b2 rfl rfl se
  have o2 := ord_eq (by omega) (by omega) b2 b1 rfl rfl se2
  have S18 := q_ord (q := { q with by_ := .imm (.int k), ma := .imm (.lst (((pts (pr t ++ pr u)).map fun x => (wi (pr t) x, wi (pr u) x)).map mD)), pa := .imm (.bl (decide (cmb kSub t u = []))), ba := .imm (.bl (decide (cmb kSub u t = []))) }) (st := s6) (R := mRet (mC (.bl false))) hx hy rfl rfl o1 o2
  have S19 := q_end (q := { q with by_ := .imm (.int k), ma := .imm (.lst (((pts (pr t ++ pr u)).map fun x => (wi (pr t) x, wi (pr u) x)).map mD)), pa := .imm (.bl (decide (cmb kSub t u = []))), ba := .imm (.bl (decide (cmb kSub u t = []))) }) (st := s6) (ty := "tuple") (R := mRet (mC (.bl false))) hx hy hf hs b1 b2 rfl (span_is b1 (by omega)) (span_is b2 (by omega)) (eq_oth (a := .non) (t := "int") rfl (fun n => by simp)) (eq_oth (a := .non) (t := "tuple") rfl (fun n => by simp))
  refine ⟨{ q with by_ := .imm (.int k), ma := .imm (.lst (((pts (pr t ++ pr u)).map fun x => (wi (pr t) x, wi (pr u) x)).map mD)), pa := .imm (.bl (decide (cmb kSub t u = []))), ba := .imm (.bl (decide (cmb kSub u t = []))) }, rs6, s6, ?_, { ok with by_ := rfl, ma := rfl, pa := rfl, ba := rfl }, p6.mono (by omega)⟩
  rw [n14, seq_nx S14, n15, seq_nx S15, n16, seq_nx S16, n17, seq_nx S17, n18, seq_nx S18, n19]
  exact S19
theorem turn_ok {rs st : List Ob} {B : Nat} {q : Q} (ok : Ok q) (hp : PenT B rs st) (hB : B + 100 < 2 ^ 30) : ∃ q' rs' st', turn (qS q st) = .ok .nx (qS q' st') ∧ Ok q' ∧ PenT (B + 100) rs' st' := by
  obtain ⟨b, st1, e1, b0, p1⟩ := base_eq hp (by omega)
  obtain ⟨l, st2, e2, ol, ll, p2⟩ := strs_eq p1 (by omega) b0
  obtain ⟨m, st3, e3, om, lm, p3⟩ := strs_eq p2 (by omega) b0
  obtain ⟨w, st4, e4, w0, w1, p4⟩ := drawT p3 (by omega) (m := 4) (by omega) (by omega)
  have S1 := q_base (q := q) e1
  have S2 := q_rows (q := { q with b := .imm (.int b) }) rfl e2 e3
  have S3 := q_way (q := { q with b := .imm (.int b), rows := .imm (rD l), oth := .imm (rD m) }) (c := .int 4) e4
  obtain ⟨m', st5, S45, om', lm', p5⟩ := others (q := { q with b := .imm (.int b), rows := .imm (rD l), oth := .imm (rD m), way := .imm (.int w) }) p4 (by omega) rfl rfl rfl ⟨ol, ll⟩ ⟨om, lm⟩ (mSeq n6 (mSeq n7 (mSeq n8 (mSeq n9 (mSeq n10 (mSeq n11 (mSeq n12 (mSeq n13 (mSeq n14 (mSeq n15 (mSeq n16 (mSeq n17 (mSeq n18 n19)))))))))))))
  have ht : Tp (rowT l) (wi l) := row_tp ol
  have hu : Tp (rowT m') (wi m') := row_tp om'
  have lt := row_len ol
  have lu := row_len om'
  have fl := flat_len l
  have fm := flat_len m'
  have S6 := q_un (q := { q with b := .imm (.int b), rows := .imm (rD l), oth := .imm (rD m'), way := .imm (.int w) }) (st := st5) rfl rfl (row_law2 ol (by omega)) (row_law2 om' (by omega))
  have S7 := q_sp (q := { q with b := .imm (.int b), rows := .imm (rD l), oth := .imm (rD m'), way := .imm (.int w), fi := .imm (pD (rowT l)), se := .imm (pD (rowT m')) }) (st := st5) rfl rfl (span_lst ol (by omega)) (span_lst om' (by omega))
  have hP : (pts (pr (rowT l) ++ pr (rowT m'))).length < 64 := by
    have := pts_few (l := pr (rowT l) ++ pr (rowT m')) (S := 0 :: (flat l ++ flat m')) List.mem_cons_self fun x hx => by
      rw [flat_app, flat_pr, flat_pr] at hx
      rcases List.mem_append.mp hx with h | h
      · exact List.mem_cons_of_mem _ (List.mem_append_left _ (row_in ol h))
      · exact List.mem_cons_of_mem _ (List.mem_append_right _ (row_in om' h))
    simp at this
    omega
  have len5 := p5.len
  have len6 : (st5 ++ [spO (pD (rowT l))]).length = rs.length + 1 + 1 := by simp [len5]
  rw [len6, len5] at S7
  have p7 := (p5.app [spO (pD (rowT l))]).app [spO (pD (rowT m'))]
  have c1 : (rs ++ [spO (pD (rowT l))] ++ [spO (pD (rowT m'))])[rs.length]? = some (spO (pD (rowT l))) := gl (gz _ _) _
  have c2 : (rs ++ [spO (pD (rowT l))] ++ [spO (pD (rowT m'))])[rs.length + 1]? = some (spO (pD (rowT m'))) := by
    have := gz (rs ++ [spO (pD (rowT l))]) (spO (pD (rowT m')))
    rw [List.length_append] at this
    exact this
  generalize st5 ++ [spO (pD (rowT l))] ++ [spO (pD (rowT m'))] = A at S7 p7
  generalize rs ++ [spO (pD (rowT l))] ++ [spO (pD (rowT m'))] = rA at p7 c1 c2
  have a1 : A[rs.length + 1]? = some (spO (pD (rowT l))) := by rw [p7.at]; exact c1
  have a2 : A[rs.length + 1 + 1]? = some (spO (pD (rowT m'))) := by rw [p7.at]; exact c2
  generalize rowT l = t at *
  generalize rowT m' = u at *
  obtain ⟨du, hdu, S8⟩ := half (q := { q with b := .imm (.int b), rows := .imm (rD l), oth := .imm (rD m'), way := .imm (.int w), fi := .imm (pD t), se := .imm (pD u), on := .imm (.loc (rs.length + 1)), tw := .imm (.loc (rs.length + 1 + 1)) }) ht hu (by omega) (by omega) hP { ok with b := rfl, rows := rfl, oth := rfl, way := rfl, fi := rfl, se := rfl, on := rfl, tw := rfl } rfl rfl rfl rfl a1 a2 (mSeq n14 (mSeq n15 (mSeq n16 (mSeq n17 (mSeq n18 n19)))))
  have p8 := (((((p7.app [spO (pD (cmb kOr t u))]).app [spO (pD (cmb kAnd t u))]).app [spO (pD (cmb kSub t u))]).app [spO (pD (cmb kXor t u))]).app [spO (pD (cmb kSub [0] t))]).app [spO (pD (cmb kSub u t))]
  have d1 := gl (gl (gl (gl (gl (gl c1 (spO (pD (cmb kOr t u)))) (spO (pD (cmb kAnd t u)))) (spO (pD (cmb kSub t u)))) (spO (pD (cmb kXor t u)))) (spO (pD (cmb kSub [0] t)))) (spO (pD (cmb kSub u t)))
  have d2 := gl (gl (gl (gl (gl (gl c2 (spO (pD (cmb kOr t u)))) (spO (pD (cmb kAnd t u)))) (spO (pD (cmb kSub t u)))) (spO (pD (cmb kXor t u)))) (spO (pD (cmb kSub [0] t)))) (spO (pD (cmb kSub u t)))
  obtain ⟨q', rs', st', S9, ok', p9⟩ := rest_ok (q := { q with b := .imm (.int b), rows := .imm (rD l), oth := .imm (rD m'), way := .imm (.int w), fi := .imm (pD t), se := .imm (pD u), on := .imm (.loc (rs.length + 1)), tw := .imm (.loc (rs.length + 1 + 1)), po := .imm (.lst ((pts (pr t ++ pr u)).map .int)), ma := .imm (.lst (((pts (pr t ++ pr u)).map fun x => (wi (pr t) x, wi (pr u) x)).map mD)), du := du }) ht hu (by omega) (by omega) (by omega) hP { ok with b := rfl, rows := rfl, oth := rfl, way := rfl, fi := rfl, se := rfl, on := rfl, tw := rfl, po := rfl, ma := rfl, du := hdu } rfl rfl rfl rfl rfl rfl p8 (by omega) d1 d2
  refine ⟨q', rs', st', ?_, ok', p9.mono (by omega)⟩
  rw [turn, n1, seq_nx S1, n2, seq_nx S2, n3, seq_nx S3, S45, n6, seq_nx S6, n7, seq_nx S7, S8]
  exact S9
end SP

namespace SP
open PySem PySem.Spec L2 DL LC
theorem put2 {q : Q} {st : List Ob} (i : D) : (qS q st).puts [(2, i)] = qS { q with ag := .imm i } st := rfl
theorem turns (is : List D) : ∀ {rs st : List Ob} {B : Nat} {q : Q}, Ok q → PenT B rs st → B + 100 * is.length < 2 ^ 30 → ∃ s', fo (gNm 2) turn is (qS q st) = .ok .nx s' := by
  induction is with
  | nil => exact fun _ _ _ => ⟨_, fo_nil⟩
  | cons i is ih =>
    intro rs st B q ok hp hB
    simp at hB
    obtain ⟨q', rs', st', h, ok', hp'⟩ := turn_ok (q := { q with ag := .imm i }) { ok with ag := rfl } hp (by omega)
    rw [← put2] at h
    obtain ⟨s', k⟩ := ih ok' hp' (by omega)
    exact ⟨s', by rw [fo_step gnm h]; exact k⟩
noncomputable def lawM20 : MS := (mSeq (mSet 1 (mCall f__law_pen (mCons (mVar 0) mNil)))
  (mSeq (mFor (mRng rng1 (mCons (mBin fAdd (mC (.int 2)) (mMin2 (mCons (mC (.int 5)) (mCons (mUn fLen (mLook 0)) mNil)))) mNil)) (gNm 2) turn) (mRet (mC (.bl true)))))
def q0 (sc : Slot) : Q := ⟨sc, .emp, .emp, .emp, .emp, .emp, .emp, .emp, .emp, .emp, .emp, .emp, .emp, .emp, .emp, .emp⟩
theorem first20 {fp : Fn} {sc : D} {st0 st : List Ob} (h1 : fp [sc] st0 = .ok (.loc 0) st) : mSet 1 (mCall fp (mCons (mVar 0) mNil)) ⟨slots 22 [sc], st0⟩ = .ok .nx (qS (q0 (.imm sc)) st) := by
  simp [slots, List.replicate, qS, q0, mSet, mCall, mCons, mNil, mVar, bnd, DL.ret, h1, outR, S.put]
theorem it20 {ns : List D} {R : List D} {st : List Ob} {f9 : List D → Option (List D)} (h : f9 [.int (2 + (if (ns.length : Int) < 5 then (ns.length : Int) else 5))] = some R) : mRng f9 (mCons (mBin fAdd (mC (.int 2)) (mMin2 (mCons (mC (.int 5)) (mCons (mUn fLen (mLook 0)) mNil)))) mNil) (qS (q0 (.imm (.kl ns))) st) = .ok R (qS (q0 (.imm (.kl ns))) st) := by
  simp [qS, q0, mRng, mCons, mNil, mBin, fAdd, mC, mMin2, mUn, fLen, itD, mLook, cur, bnd, DL.ret, lift, h]
theorem rng20 (n : Nat) : ∃ k : Nat, k ≤ 7 ∧ rng1 [.int (2 + (if (n : Int) < 5 then (n : Int) else 5))] = some (intsD 0 k) := by
  by_cases h : (n : Int) < 5
  · rw [if_pos h]
    exact ⟨2 + n, by omega, by rw [show (2 : Int) + n = ((2 + n : Nat) : Int) by omega]; exact rng_nat (by omega)⟩
  · rw [if_neg h]
    exact ⟨7, by omega, rng_nat (n := 7) (by omega)⟩
theorem lawM20_ok (ns : List Int) (h : ns.length ≤ 63) : ∃ st, fnM 22 lawM20 [.kl (ns.map .int)] [] = .ok (.bl true) st := by
  have hp : PenT 0 [] [.dct (penL ns 0 0)] := ⟨ns, 0, 0, rfl, by omega, by omega, by omega, by omega⟩
  obtain ⟨k, hk, hr⟩ := rng20 (ns.map D.int).length
  have it := it20 (ns := ns.map D.int) (st := [.dct (penL ns 0 0)]) hr
  obtain ⟨s', k4⟩ := turns (intsD 0 k) (q := q0 (.imm (.kl (ns.map .int)))) ⟨rfl, rfl, rfl, rfl, rfl, rfl, rfl, rfl, rfl, rfl, rfl, rfl, rfl, rfl, rfl, rfl⟩ hp (by rw [ints_len]; omega)
  refine ⟨s'.st, ?_⟩
  show endR (lawM20 ⟨slots 22 [.kl (ns.map .int)], []⟩) = _
  rw [lawM20, seq_nx (first20 (pen_eq ns h)), seq_nx (for_of it k4), ret_true]
end SP

namespace K20
open PySem PySem.Spec L2 DL
noncomputable section
def top (i : Nat) : Stmt := PySem.Challenge.pw_everyname_k20_whole_operators_of_spans.main.body.getD i (.Pass ⟨0, 0, 0, 0⟩)
/-! Span___eq__(self, other): slots self, other -/
abbrev m_Span___eq__ : MS := LC.m_Span___eq__
abbrev f_Span___eq__ : Fn := LC.f_Span___eq__
/-! _law_whole(_law_value): slots _law_value -/
abbrev m__law_whole : MS := LC.m__law_whole
abbrev f__law_whole : Fn := LC.f__law_whole
/-! _law_span_is(_law_span, _law_stretches_here): slots _law_span, _law_stretches_here, _law_told, _law_pair, _law_low, _law_high -/
abbrev m__law_span_is : MS := LC.m__law_span_is
abbrev f__law_span_is : Fn := LC.f__law_span_is
/-! paired(told): slots told, ends, turn, k -/
abbrev m_paired : MS := LC.m_paired
abbrev f_paired : Fn := LC.f_paired
/-! turning_points(stretches): slots stretches, low, high, turn -/
abbrev m_turning_points : MS := LC.m_turning_points
abbrev f_turning_points : Fn := LC.f_turning_points
/-! combined(one, two, keep): slots one, two, keep, first, second, a, b, told, at -/
abbrev m_combined : MS := LC.m_combined
abbrev f_combined : Fn := LC.f_combined
/-! Span___le__(self, other): slots self, other -/
abbrev m_Span___le__ : MS := LC.m_Span___le__
abbrev f_Span___le__ : Fn := LC.f_Span___le__
/-! Span___lt__(self, other): slots self, other -/
abbrev m_Span___lt__ : MS := LC.m_Span___lt__
abbrev f_Span___lt__ : Fn := LC.f_Span___lt__
/-! Span___ge__(self, other): slots self, other -/
abbrev m_Span___ge__ : MS := LC.m_Span___ge__
abbrev f_Span___ge__ : Fn := LC.f_Span___ge__
/-! Span___gt__(self, other): slots self, other -/
abbrev m_Span___gt__ : MS := LC.m_Span___gt__
abbrev f_Span___gt__ : Fn := LC.f_Span___gt__
/-! _law_orders(_law_one, _law_other, _law_due, _law_backward): slots _law_one, _law_other, _law_due, _law_backward, _law_told, _law_wanted, _law_truth -/
abbrev m__law_orders : MS := LC.m__law_orders
abbrev f__law_orders : Fn := LC.f__law_orders
/-! span_moved(stretches, by): slots stretches, by, told, low, high -/
abbrev m_span_moved : MS := LC.m_span_moved
abbrev f_span_moved : Fn := LC.f_span_moved
/-! is_whole(value): slots value -/
abbrev m_is_whole : MS := LC.m_is_whole
abbrev f_is_whole : Fn := LC.f_is_whole
/-! is_stretch(value): slots value, low, high -/
abbrev m_is_stretch : MS := LC.m_is_stretch
abbrev f_is_stretch : Fn := LC.f_is_stretch
/-! Span___init__(self, stretches): slots self, stretches, told, stretch -/
abbrev m_Span___init__ : MS := LC.m_Span___init__
abbrev f_Span___init__ : Fn := LC.f_Span___init__
/-! Span___lshift__(self, k): slots self, k -/
abbrev m_Span___lshift__ : MS := LC.m_Span___lshift__
abbrev f_Span___lshift__ : Fn := LC.f_Span___lshift__
/-! _law_within(_law_stretches_here, _law_n): slots _law_stretches_here, _law_n, _law_low, _law_high -/
abbrev m__law_within : MS := LC.m__law_within
abbrev f__law_within : Fn := LC.f__law_within
/-! _law_highs(_law_lows): slots _law_lows, _law_low -/
abbrev m__law_highs : MS := LC.m__law_highs
abbrev f__law_highs : Fn := LC.f__law_highs
/-! _law_joined(_law_parts): slots _law_parts, _law_found, _law_low, _law_high, _law_mark -/
abbrev m__law_joined : MS := LC.m__law_joined
abbrev f__law_joined : Fn := LC.f__law_joined
/-! _law_spread(_law_points_here, _law_inside): slots _law_points_here, _law_inside, _law_parts, _law_low, _law_high, _law_truth -/
abbrev m__law_spread : MS := LC.m__law_spread
abbrev f__law_spread : Fn := LC.f__law_spread
/-! _law_points(_law_stretches_here): slots _law_stretches_here, _law_seams, _law_low, _law_high, _law_n -/
abbrev m__law_points : MS := LC.m__law_points
abbrev f__law_points : Fn := LC.f__law_points
/-! _law_united(_law_stretches_here): slots _law_stretches_here, _law_points_here, _law_n -/
abbrev m__law_united : MS := LC.m__law_united
abbrev f__law_united : Fn := LC.f__law_united
/-! _law_moved_by(_law_stretches_here, _law_by): slots _law_stretches_here, _law_by, _law_rows, _law_low, _law_high -/
abbrev m__law_moved_by : MS := LC.m__law_moved_by
abbrev f__law_moved_by : Fn := LC.f__law_moved_by
/-! Span___rshift__(self, k): slots self, k -/
abbrev m_Span___rshift__ : MS := LC.m_Span___rshift__
abbrev f_Span___rshift__ : Fn := LC.f_Span___rshift__
/-! _law_draw(_law_pen_here, _law_many): slots _law_pen_here, _law_many, _law_digit, _law_spot, _law_size, _law_cell, _law_stir -/
abbrev m__law_draw : MS := LC.m__law_draw
abbrev f__law_draw : Fn := LC.f__law_draw
/-! _law_great(_law_pen_here, _law_many): slots _law_pen_here, _law_many, _law_amount, _law_size -/
abbrev m__law_great : MS := LC.m__law_great
abbrev f__law_great : Fn := LC.f__law_great
/-! _law_integer(_law_pen_here): slots _law_pen_here, _law_way, _law_side -/
abbrev m__law_integer : MS := LC.m__law_integer
abbrev f__law_integer : Fn := LC.f__law_integer
/-! _law_pick(_law_pen_here, _law_options): slots _law_pen_here, _law_options -/
abbrev m__law_pick : MS := LC.m__law_pick
abbrev f__law_pick : Fn := LC.f__law_pick
/-! Span___invert__(self): slots self -/
abbrev m_Span___invert__ : MS := LC.m_Span___invert__
abbrev f_Span___invert__ : Fn := LC.f_Span___invert__
/-! Span___sub__(self, other): slots self, other -/
abbrev m_Span___sub__ : MS := LC.m_Span___sub__
abbrev f_Span___sub__ : Fn := LC.f_Span___sub__
/-! Span___xor__(self, other): slots self, other -/
abbrev m_Span___xor__ : MS := LC.m_Span___xor__
abbrev f_Span___xor__ : Fn := LC.f_Span___xor__
/-! Span___or__(self, other): slots self, other -/
abbrev m_Span___or__ : MS := LC.m_Span___or__
abbrev f_Span___or__ : Fn := LC.f_Span___or__
/-! Span___and__(self, other): slots self, other -/
abbrev m_Span___and__ : MS := LC.m_Span___and__
abbrev f_Span___and__ : Fn := LC.f_Span___and__
/-! _law_stretch(_law_pen_here, _law_base_here): slots _law_pen_here, _law_base_here, _law_low -/
abbrev m__law_stretch : MS := LC.m__law_stretch
abbrev f__law_stretch : Fn := LC.f__law_stretch
/-! _law_stretches(_law_pen_here, _law_base_here): slots _law_pen_here, _law_base_here, _law_found, _law_k -/
abbrev m__law_stretches : MS := LC.m__law_stretches
abbrev f__law_stretches : Fn := LC.f__law_stretches
/-! _law_base(_law_pen_here): slots _law_pen_here -/
abbrev m__law_base : MS := LC.m__law_base
abbrev f__law_base : Fn := LC.f__law_base
/-! _law_pen(_law_script): slots _law_script -/
abbrev m__law_pen : MS := LC.m__law_pen
abbrev f__law_pen : Fn := LC.f__law_pen
/-! law(_law_script): slots _law_script, _law_pen_here, _law_again, _law_base_here, _law_rows, _law_others, _law_way, _law_first, _law_second, _law_one, _law_two, _law_points_here, _law_marks, _law_dues, _law_by, _law_part, _law_backward, _law_n, _law_a, _law_b, _law_span, _law_inside -/
def m_law : MS := (mSeq (mSet 1 (mCall f__law_pen (mCons (mVar 0) mNil)))
  (mSeq (mFor (mRng rng1 (mCons (mBin fAdd (mC (.int 2)) (mMin2 (mCons (mC (.int 5)) (mCons (mUn fLen (mLook 0)) mNil)))) mNil)) (gNm 2) (mSeq (mSet 3 (mCall f__law_base (mCons (mVar 1) mNil)))
  (mSeq (mPar 4 5 (mCons (mCall f__law_stretches (mCons (mVar 1) (mCons (mVar 3) mNil))) (mCons (mCall f__law_stretches (mCons (mVar 1) (mCons (mVar 3) mNil))) mNil)))
  (mSeq (mSet 6 (mCall f__law_draw (mCons (mVar 1) (mCons (mC (.int 4)) mNil))))
  (mSeq (mIfS (mBl (mBin fEq (mVar 6) (mC (.int 0)))) (mSet 5 (mBin fAdd (mVar 5) (mVar 4))) mPass)
  (mSeq (mIfS (mBl (mBin fEq (mVar 6) (mC (.int 1)))) (mSet 5 (mSlN 4 mNoP (mPart (mCall f__law_draw (mCons (mVar 1) (mCons (mBin fAdd (mUn fLen (mLook 4)) (mC (.int 1))) mNil)))))) mPass)
  (mSeq (mAsg (gTL 2 (gsCons (gNm 7) (gsCons (gNm 8) gsNil))) (mTup (mCons (mCall f__law_united (mCons (mVar 4) mNil)) (mCons (mCall f__law_united (mCons (mVar 5) mNil)) mNil))))
  (mSeq (mPar 9 10 (mCons (mMake "Span" f_Span___init__ (mCons (mVar 4) mNil)) (mCons (mMake "Span" f_Span___init__ (mCons (mVar 5) mNil)) mNil)))
  (mSeq (mSet 11 (mCall f__law_points (mCons (mBin fAdd (mVar 7) (mVar 8)) mNil)))
  (mSeq (mOwn 12 (mLc (mIt (mVar 11)) (gNm 17) mYes (mTup (mCons (mCall f__law_within (mCons (mVar 7) (mCons (mVar 17) mNil))) (mCons (mCall f__law_within (mCons (mVar 8) (mCons (mVar 17) mNil))) mNil))) [17]))
  (mSeq (mOwn 13 (mLst (mCons (mTup (mCons (mOp2 "Span" f_Span___or__ (mVar 9) (mVar 10)) (mCons (mFz (mLc (mIt (mVar 12)) (gTp 2 (gsCons (gNm 18) (gsCons (gNm 19) gsNil))) mYes (mOr (mVar 18) (mVar 19)) [18, 19])) mNil))) (mCons (mTup (mCons (mOp2 "Span" f_Span___and__ (mVar 9) (mVar 10)) (mCons (mFz (mLc (mIt (mVar 12)) (gTp 2 (gsCons (gNm 18) (gsCons (gNm 19) gsNil))) mYes (mAnd (mVar 18) (mVar 19)) [18, 19])) mNil))) mNil))))
  (mSeq (mOwn 13 (mBinF lAddL (mVar 13) (mFz (mLst (mCons (mTup (mCons (mOp2 "Span" f_Span___sub__ (mVar 9) (mVar 10)) (mCons (mFz (mLc (mIt (mVar 12)) (gTp 2 (gsCons (gNm 18) (gsCons (gNm 19) gsNil))) mYes (mAnd (mVar 18) (mNot (mVar 19))) [18, 19])) mNil))) (mCons (mTup (mCons (mOp2 "Span" f_Span___xor__ (mVar 9) (mVar 10)) (mCons (mFz (mLc (mIt (mVar 12)) (gTp 2 (gsCons (gNm 18) (gsCons (gNm 19) gsNil))) mYes (mBin fNe (mVar 18) (mVar 19)) [18, 19])) mNil))) mNil))))))
  (mSeq (mOwn 13 (mBinF lAddL (mVar 13) (mFz (mLst (mCons (mTup (mCons (mOp1 "Span" f_Span___invert__ (mVar 9)) (mCons (mFz (mLc (mIt (mVar 12)) (gTp 2 (gsCons (gNm 18) (gsCons (gNm 19) gsNil))) mYes (mNot (mVar 18)) [18, 19])) mNil))) (mCons (mTup (mCons (mOp2 "Span" f_Span___sub__ (mVar 10) (mVar 9)) (mCons (mFz (mLc (mIt (mVar 12)) (gTp 2 (gsCons (gNm 18) (gsCons (gNm 19) gsNil))) mYes (mAnd (mVar 19) (mNot (mVar 18))) [18, 19])) mNil))) mNil))))))
  (mSeq (mIfS (mNotT (mTru (mUn fAll (mFz (mLc (mIt (mVar 13)) (gTp 2 (gsCons (gNm 20) (gsCons (gNm 21) gsNil))) mYes (mCall f__law_span_is (mCons (mVar 20) (mCons (mCall f__law_spread (mCons (mVar 11) (mCons (mVar 21) mNil))) mNil))) [20, 21]))))) (mRet (mC (.bl false))) mPass)
  (mSeq (mSet 14 (mCall f__law_pick (mCons (mVar 1) (mCons (mFz (mLst (mCons (mCall f__law_integer (mCons (mVar 1) mNil)) (mCons (mUn iNeg (mVar 3)) (mCons (mBin iSub (mBin iSub (mC (.int 1)) (mVar 3)) (mCall f__law_draw (mCons (mVar 1) (mCons (mC (.int 30)) mNil)))) (mCons (mCall f__law_draw (mCons (mVar 1) (mCons (mC (.int 9)) mNil))) mNil)))))) mNil))))
  (mSeq (mIfS (mNotT (mTru (mCall f__law_span_is (mCons (mOpI "Span" f_Span___rshift__ (mVar 9) (mVar 14)) (mCons (mCall f__law_moved_by (mCons (mVar 7) (mCons (mVar 14) mNil))) mNil))))) (mRet (mC (.bl false))) mPass)
  (mSeq (mIfS (mNotT (mTru (mCall f__law_span_is (mCons (mOpI "Span" f_Span___lshift__ (mVar 9) (mVar 14)) (mCons (mCall f__law_moved_by (mCons (mVar 7) (mCons (mUn iNeg (mVar 14)) mNil))) mNil))))) (mRet (mC (.bl false))) mPass)
  (mSeq (mPar 15 16 (mCons (mUn fAll (mFz (mLc (mIt (mVar 12)) (gTp 2 (gsCons (gNm 18) (gsCons (gNm 19) gsNil))) mYes (mOr (mVar 19) (mNot (mVar 18))) [18, 19]))) (mCons (mUn fAll (mFz (mLc (mIt (mVar 12)) (gTp 2 (gsCons (gNm 18) (gsCons (gNm 19) gsNil))) mYes (mOr (mVar 18) (mNot (mVar 19))) [18, 19]))) mNil)))
  (mSeq (mIfS (mOrT (mNotT (mTru (mCall f__law_orders (mCons (mVar 9) (mCons (mVar 10) (mCons (mVar 15) (mCons (mVar 16) mNil))))))) (mNotT (mTru (mCall f__law_orders (mCons (mVar 10) (mCons (mVar 9) (mCons (mVar 16) (mCons (mVar 15) mNil)))))))) (mRet (mC (.bl false))) mPass)
  (mIfS (mOrT (mNotT (mTru (mCall f__law_span_is (mCons (mVar 9) (mCons (mVar 7) mNil))))) (mOrT (mNotT (mTru (mCall f__law_span_is (mCons (mVar 10) (mCons (mVar 8) mNil))))) (mOrT (mBl (mCmpO "Span" f_Span___eq__ (mVar 9) (mC (.int 3)))) (mBl (mCmpO "Span" f_Span___eq__ (mVar 10) (mVar 8)))))) (mRet (mC (.bl false))) mPass))))))))))))))))))))
  (mRet (mC (.bl true)))))
def f_law : Fn := fnM 22 m_law
section
variable {P : Program} {w : World} {K : PySem.W.Frag} {mg : Str → Option Value} {base : Heap}
theorem sc_Span___eq__ : FnScope ["self", "other"] ["self", "other"] (defScope (clsDef (top 19) 4)) := ⟨rfl, rfl, rfl, by decide +kernel, rfl, by decide +kernel, by decide +kernel⟩
theorem ok_Span___eq__ (F : MtW K "Span" "__eq__" "Span.__eq__" (clsDef (top 19) 4) []) (C_Span : KC K mg "Span") (g_isinstance : mg "isinstance" = none) (na_Span_stretches : NoAttr K (He.ga K "Span") "stretches") : KnM P w K mg base "Span" "__eq__" 1 ["self", "other"] f_Span___eq__ := by
  have sc := sc_Span___eq__
  refine knM_ok F sc (fun fd F => F.bindsN fun _ _ _ _ _ _ us hl => match us, hl with | [_, _], _ => rfl) (k := 0) fun cdv A outer s H E hr tk hp hu hu1 => ?_
  exact (jss_one (js_ret (je_and (je_isC C_Span.is rfl g_isinstance rfl C_Span.mg (jb_var 1)) (je_one (je_cmp (op_eqX hu) k_eq (je_fld C_Span.cl na_Span_stretches (je_var 0)) (je_fld C_Span.cl na_Span_stretches (je_var 1)) (nomark _))))))
theorem sc__law_whole : FnScope ["_law_value"] ["_law_value"] (defScope (top 24)) := ⟨rfl, rfl, rfl, by decide +kernel, rfl, by decide +kernel, by decide +kernel⟩
theorem ok__law_whole (F : FnW K "_law_whole" (top 24)) (hm : mg "_law_whole" = some (.ref (He.ga K "_law_whole"))) (g_isinstance : mg "isinstance" = none) (g_bool : mg "bool" = none) (g_int : mg "int" = none) : Kn P w K mg base "_law_whole" 1 ["_law_value"] f__law_whole := by
  have sc := sc__law_whole
  refine kn_ok F hm sc (fun _ _ _ _ _ _ us hl => match us, hl with | [_], _ => rfl) (k := 0) fun cdv A outer s H E hr tk hp hu hu1 => ?_
  exact (jss_one (js_ret (je_and (je_isi (T := "int") (by decide) rfl g_isinstance rfl g_int (by kernel_rfl) (jb_var 0)) (je_one (je_not (je_isi (T := "bool") (by decide) rfl g_isinstance rfl g_bool (by kernel_rfl) (jb_var 0)))))))
theorem sc__law_span_is : FnScope ["_law_span", "_law_stretches_here", "_law_told", "_law_pair", "_law_low", "_law_high"] ["_law_span", "_law_stretches_here"] (defScope (top 34)) := ⟨rfl, rfl, rfl, by decide +kernel, rfl, by decide +kernel, by decide +kernel⟩
theorem ok__law_span_is (F : FnW K "_law_span_is" (top 34)) (hm : mg "_law_span_is" = some (.ref (He.ga K "_law_span_is"))) (C_Span : KC K mg "Span") (c__law_whole : Kn P w K mg base "_law_whole" 1 ["_law_value"] f__law_whole) (g_all : mg "all" = none) (g_isinstance : mg "isinstance" = none) (g_tuple : mg "tuple" = none) (na_Span_stretches : NoAttr K (He.ga K "Span") "stretches") : Kn P w K mg base "_law_span_is" 2 ["_law_span", "_law_stretches_here"] f__law_span_is := by
  have sc := sc__law_span_is
  refine kn_ok F hm sc (fun _ _ _ _ _ _ us hl => match us, hl with | [_, _], _ => rfl) (k := 1) fun cdv A outer s H E hr tk hp hu hu1 => ?_
  exact (jss_cons (js_set sc.nd (i := 2) rfl (by first | exact Or.inl rfl | exact Or.inr rfl) (je_fld C_Span.cl na_Span_stretches (je_var 0)))
  (jss_cons (js_if (JW.jt (jw_or (jt_not (jt_truth (je_isi (T := "tuple") (by decide) rfl g_isinstance rfl g_tuple (by kernel_rfl) (jb_var 2)))) (jw_or (jt_neV 2 hu (je_var 1)) (jw_or1 (jt_not (jt_truth (je_b1 (cr_all rfl) k_all rfl g_all (by kernel_rfl) (jb_new (jf_lc (own := [("_law_pair", 3)]) rfl sc.nd (ji_seq (je_var 2)) (blk_ok (by kernel_rfl)) (fun s2 H2 C2 cl2 fp2 => (jg_name sc.nd rfl (by first | exact Or.inl rfl | exact Or.inr rfl))) (fun s2 H2 C2 cl2 fp2 => jts_nil) (fun s2 H2 C2 cl2 fp2 => (je_isi (T := "tuple") (by decide) rfl g_isinstance rfl g_tuple (by kernel_rfl) (jb_var 3)))))))))))) (jss_one (js_ret je_bl)) jss_nil)
  (jss_one (js_ret (je_b1 (cr_all rfl) k_all rfl g_all (by kernel_rfl) (jb_new (jf_lc (own := [("_law_low", 4), ("_law_high", 5)]) rfl sc.nd (ji_seq (je_var 2)) (blk_ok (by kernel_rfl)) (fun s2 H2 C2 cl2 fp2 => (jg_tup rfl (jgs_cons (jg_name sc.nd rfl (by first | exact Or.inl rfl | exact Or.inr rfl)) (jgs_cons (jg_name sc.nd rfl (by first | exact Or.inl rfl | exact Or.inr rfl)) jgs_nil)))) (fun s2 H2 C2 cl2 fp2 => jts_nil) (fun s2 H2 C2 cl2 fp2 => (je_and (je_callK c__law_whole (hr.mono (by omega)) tkF rfl (ja_cons (je_var 4) ja_nil)) (je_one (je_or (je_cmp op_isN k_isN (je_var 5) je_non (nomark _)) (je_one (je_callK c__law_whole (hr.mono (by omega)) tkF rfl (ja_cons (je_var 5) ja_nil))))))))))))))
theorem sc_paired : FnScope ["told", "ends", "turn", "k"] ["told"] (defScope (top 14)) := ⟨rfl, rfl, rfl, by decide +kernel, rfl, by decide +kernel, by decide +kernel⟩
theorem ok_paired (F : FnW K "paired" (top 14)) (hm : mg "paired" = some (.ref (He.ga K "paired"))) (g_len : mg "len" = none) (g_range : mg "range" = none) (g_tuple : mg "tuple" = none) : Kn P w K mg base "paired" 1 ["told"] f_paired := by
  have sc := sc_paired
  refine kn_ok F hm sc (fun _ _ _ _ _ _ us hl => match us, hl with | [_], _ => rfl) (k := 0) fun cdv A outer s H E hr tk hp hu hu1 => ?_
  exact (jss_cons (js_own sc.nd (i := 1) rfl (by first | exact Or.inl rfl | exact Or.inr rfl) (jf_bin op_cat k_laddF (je_fz (jf_lc (own := [("turn", 2)]) rfl sc.nd (ji_seq (je_var 0)) (blk_ok (by kernel_rfl)) (fun s2 H2 C2 cl2 fp2 => (jg_name sc.nd rfl (by first | exact Or.inl rfl | exact Or.inr rfl))) (fun s2 H2 C2 cl2 fp2 => jts_nil) (fun s2 H2 C2 cl2 fp2 => (je_bin op_sub k_sub (je_var 2) je_int)))) (je_fz (jf_lst (ja_cons je_non ja_nil)))))
  (jss_one (js_ret (je_t1 call_tuple_of k_tuple rfl g_tuple (by kernel_rfl) (jb_new (jf_lc (own := [("k", 3)]) rfl sc.nd (ji_range3 rfl g_range (ja_cons je_int (ja_cons (je_b1 call_len k_len rfl g_len (by kernel_rfl) (jb_var 0)) (ja_cons je_int ja_nil)))) (blk_ok (by kernel_rfl)) (fun s2 H2 C2 cl2 fp2 => (jg_name sc.nd rfl (by first | exact Or.inl rfl | exact Or.inr rfl))) (fun s2 H2 C2 cl2 fp2 => jts_nil) (fun s2 H2 C2 cl2 fp2 => (je_tup (ja_cons (je_ixV 0 (je_var 3)) (ja_cons (je_ixV 1 (je_bin op_addX k_addX (je_var 3) je_int)) ja_nil))))))))))
theorem sc_turning_points : FnScope ["stretches", "low", "high", "turn"] ["stretches"] (defScope (top 13)) := ⟨rfl, rfl, rfl, by decide +kernel, rfl, by decide +kernel, by decide +kernel⟩
theorem ok_turning_points (F : FnW K "turning_points" (top 13)) (hm : mg "turning_points" = some (.ref (He.ga K "turning_points"))) : Kn P w K mg base "turning_points" 1 ["stretches"] f_turning_points := by
  have sc := sc_turning_points
  refine kn_ok F hm sc (fun _ _ _ _ _ _ us hl => match us, hl with | [_], _ => rfl) (k := 0) fun cdv A outer s H E hr tk hp hu hu1 => ?_
  exact (jss_one (js_ret (je_fz (jf_lc2 (own := [("low", 1), ("high", 2), ("turn", 3)]) rfl sc.nd (ji_seq (je_var 0)) (blk_ok (by kernel_rfl)) (fun s2 H2 C2 cl2 fp2 => (jg_tup rfl (jgs_cons (jg_name sc.nd rfl (by first | exact Or.inl rfl | exact Or.inr rfl)) (jgs_cons (jg_name sc.nd rfl (by first | exact Or.inl rfl | exact Or.inr rfl)) jgs_nil)))) (fun s2 H2 C2 cl2 fp2 => jts_nil) (fun s2 H2 C2 cl2 fp2 => (ji_new (jf_if (jt_cmp op_isN k_isN (je_var 2) je_non (nomark _)) (jf_lst (ja_cons (je_var 1) ja_nil)) (jf_lst (ja_cons (je_var 1) (ja_cons (je_bin op_addX k_addX (je_var 2) je_int) ja_nil)))))) (fun s2 H2 C2 cl2 fp2 => (jg_name sc.nd rfl (by first | exact Or.inl rfl | exact Or.inr rfl))) (fun s2 H2 C2 cl2 fp2 => jts_nil) (fun s2 H2 C2 cl2 fp2 => (je_var 3))))))
theorem sc_combined : FnScope ["one", "two", "keep", "first", "second", "a", "b", "told", "at"] ["one", "two", "keep"] (defScope (top 15)) := ⟨rfl, rfl, rfl, by decide +kernel, rfl, by decide +kernel, by decide +kernel⟩
theorem ok_combined (F : FnW K "combined" (top 15)) (hm : mg "combined" = some (.ref (He.ga K "combined"))) (c_paired : Kn P w K mg base "paired" 1 ["told"] f_paired) (c_turning_points : Kn P w K mg base "turning_points" 1 ["stretches"] f_turning_points) (g_len : mg "len" = none) : Kn P w K mg base "combined" 2 ["one", "two", "keep"] f_combined := by
  have sc := sc_combined
  refine kn_ok F hm sc (fun _ _ _ _ _ _ us hl => match us, hl with | [_, _, _], _ => rfl) (k := 1) fun cdv A outer s H E hr tk hp hu hu1 => ?_
  exact (jss_cons (js_set sc.nd (i := 3) rfl (by first | exact Or.inl rfl | exact Or.inr rfl) (je_callK c_turning_points (hr.mono (by omega)) tk rfl (ja_cons (je_var 0) ja_nil)))
  (jss_cons (js_set sc.nd (i := 4) rfl (by first | exact Or.inl rfl | exact Or.inr rfl) (je_callK c_turning_points (hr.mono (by omega)) tk rfl (ja_cons (je_var 1) ja_nil)))
  (jss_cons (js_set sc.nd (i := 5) rfl (by first | exact Or.inl rfl | exact Or.inr rfl) je_int)
  (jss_cons (js_set sc.nd (i := 6) rfl (by first | exact Or.inl rfl | exact Or.inr rfl) je_int)
  (jss_cons (js_own sc.nd (i := 7) rfl (by first | exact Or.inl rfl | exact Or.inr rfl) (jf_lst ja_nil))
  (jss_cons (js_while hp (JW.jt (jw_or (jt_cmp op_lt k_lt (je_var 5) (je_b1 call_len k_len rfl g_len (by kernel_rfl) (jb_var 3)) (nomark _)) (jw_or1 (jt_cmp op_lt k_lt (je_var 6) (je_b1 call_len k_len rfl g_len (by kernel_rfl) (jb_var 4)) (nomark _))))) (jss_cons (js_if (JW.jt (jw_or (jt_cmp (op_eqX hu) k_eq (je_var 6) (je_b1 call_len k_len rfl g_len (by kernel_rfl) (jb_var 4)) (nomark _)) (jw_or1 (JW.jt (jw_and (jt_cmp op_lt k_lt (je_var 5) (je_b1 call_len k_len rfl g_len (by kernel_rfl) (jb_var 3)) (nomark _)) (jw_and1 (jt_cmp op_lt k_lt (je_ixV 3 (je_var 5)) (je_ixV 4 (je_var 6)) (nomark _)))))))) (jss_one (js_set sc.nd (i := 8) rfl (by first | exact Or.inl rfl | exact Or.inr rfl) (je_ixV 3 (je_var 5)))) (jss_one (js_set sc.nd (i := 8) rfl (by first | exact Or.inl rfl | exact Or.inr rfl) (je_ixV 4 (je_var 6)))))
  (jss_cons (js_if (JW.jt (jw_and (jt_cmp op_lt k_lt (je_var 5) (je_b1 call_len k_len rfl g_len (by kernel_rfl) (jb_var 3)) (nomark _)) (jw_and1 (jt_cmp (op_eqX hu) k_eq (je_ixV 3 (je_var 5)) (je_var 8) (nomark _))))) (jss_one (js_set sc.nd (i := 5) rfl (by first | exact Or.inl rfl | exact Or.inr rfl) (je_bin op_addX k_addX (je_var 5) je_int))) jss_nil)
  (jss_cons (js_if (JW.jt (jw_and (jt_cmp op_lt k_lt (je_var 6) (je_b1 call_len k_len rfl g_len (by kernel_rfl) (jb_var 4)) (nomark _)) (jw_and1 (jt_cmp (op_eqX hu) k_eq (je_ixV 4 (je_var 6)) (je_var 8) (nomark _))))) (jss_one (js_set sc.nd (i := 6) rfl (by first | exact Or.inl rfl | exact Or.inr rfl) (je_bin op_addX k_addX (je_var 6) je_int))) jss_nil)
  (jss_one (js_if (jt_cmp (op_neX hu) k_ne (je_ixV 2 (je_bin op_addX k_addX (je_bin op_mulX k_mulX (je_bin op_mod k_mod (je_var 5) je_int) je_int) (je_bin op_mod k_mod (je_var 6) je_int))) (je_cmp (op_eqX hu) k_eq (je_bin op_mod k_mod (je_b1 call_len k_len rfl g_len (by kernel_rfl) (jb_var 7)) je_int) je_int (nomark _)) (nomark _)) (jss_one (js_expr (je_app (je_var 8)))) jss_nil))))))
  (jss_one (js_ret (je_callK c_paired (hr.mono (by omega)) tk rfl (ja_cons (je_var 7) ja_nil))))))))))
theorem sc_Span___le__ : FnScope ["self", "other"] ["self", "other"] (defScope (clsDef (top 19) 5)) := ⟨rfl, rfl, rfl, by decide +kernel, rfl, by decide +kernel, by decide +kernel⟩
theorem ok_Span___le__ (F : MtW K "Span" "__le__" "Span.__le__" (clsDef (top 19) 5) []) (C_Span : KC K mg "Span") (q_WITHOUT : GK K "WITHOUT" (.kt [(.bl false), (.bl false), (.bl true), (.bl false)])) (n_WITHOUT : mg "WITHOUT" = some (.ref (He.ga K "WITHOUT"))) (c_combined : Kn P w K mg base "combined" 2 ["one", "two", "keep"] f_combined) (g_isinstance : mg "isinstance" = none) (na_Span_stretches : NoAttr K (He.ga K "Span") "stretches") : KnM P w K mg base "Span" "__le__" 3 ["self", "other"] f_Span___le__ := by
  have sc := sc_Span___le__
  refine knM_ok F sc (fun fd F => F.bindsN fun _ _ _ _ _ _ us hl => match us, hl with | [_, _], _ => rfl) (k := 2) fun cdv A outer s H E hr tk hp hu hu1 => ?_
  exact (jss_cons (js_if (jt_not (jt_truth (je_isC C_Span.is rfl g_isinstance rfl C_Span.mg (jb_var 1)))) (jss_one js_stk) jss_nil)
  (jss_one (js_ret (je_cmp (op_eqX hu) k_eq (je_callK c_combined (hr.mono (by omega)) tk rfl (ja_cons (je_fld C_Span.cl na_Span_stretches (je_var 0)) (ja_cons (je_fld C_Span.cl na_Span_stretches (je_var 1)) (ja_cons (je_gk q_WITHOUT rfl n_WITHOUT) ja_nil)))) (je_tup ja_nil) (nomark _)))))
theorem sc_Span___lt__ : FnScope ["self", "other"] ["self", "other"] (defScope (clsDef (top 19) 6)) := ⟨rfl, rfl, rfl, by decide +kernel, rfl, by decide +kernel, by decide +kernel⟩
theorem ok_Span___lt__ (F : MtW K "Span" "__lt__" "Span.__lt__" (clsDef (top 19) 6) []) (C_Span : KC K mg "Span") (q_WITHOUT : GK K "WITHOUT" (.kt [(.bl false), (.bl false), (.bl true), (.bl false)])) (n_WITHOUT : mg "WITHOUT" = some (.ref (He.ga K "WITHOUT"))) (c_combined : Kn P w K mg base "combined" 2 ["one", "two", "keep"] f_combined) (g_isinstance : mg "isinstance" = none) (na_Span_stretches : NoAttr K (He.ga K "Span") "stretches") : KnM P w K mg base "Span" "__lt__" 3 ["self", "other"] f_Span___lt__ := by
  have sc := sc_Span___lt__
  refine knM_ok F sc (fun fd F => F.bindsN fun _ _ _ _ _ _ us hl => match us, hl with | [_, _], _ => rfl) (k := 2) fun cdv A outer s H E hr tk hp hu hu1 => ?_
  exact (jss_cons (js_if (jt_not (jt_truth (je_isC C_Span.is rfl g_isinstance rfl C_Span.mg (jb_var 1)))) (jss_one js_stk) jss_nil)
  (jss_one (js_ret (je_and (je_cmp (op_neX hu) k_ne (je_fld C_Span.cl na_Span_stretches (je_var 0)) (je_fld C_Span.cl na_Span_stretches (je_var 1)) (nomark _)) (je_one (je_cmp (op_eqX hu) k_eq (je_callK c_combined (hr.mono (by omega)) tk rfl (ja_cons (je_fld C_Span.cl na_Span_stretches (je_var 0)) (ja_cons (je_fld C_Span.cl na_Span_stretches (je_var 1)) (ja_cons (je_gk q_WITHOUT rfl n_WITHOUT) ja_nil)))) (je_tup ja_nil) (nomark _)))))))
theorem sc_Span___ge__ : FnScope ["self", "other"] ["self", "other"] (defScope (clsDef (top 19) 7)) := ⟨rfl, rfl, rfl, by decide +kernel, rfl, by decide +kernel, by decide +kernel⟩
theorem ok_Span___ge__ (F : MtW K "Span" "__ge__" "Span.__ge__" (clsDef (top 19) 7) []) (C_Span : KC K mg "Span") (q_WITHOUT : GK K "WITHOUT" (.kt [(.bl false), (.bl false), (.bl true), (.bl false)])) (n_WITHOUT : mg "WITHOUT" = some (.ref (He.ga K "WITHOUT"))) (c_combined : Kn P w K mg base "combined" 2 ["one", "two", "keep"] f_combined) (g_isinstance : mg "isinstance" = none) (na_Span_stretches : NoAttr K (He.ga K "Span") "stretches") : KnM P w K mg base "Span" "__ge__" 3 ["self", "other"] f_Span___ge__ := by
  have sc := sc_Span___ge__
  refine knM_ok F sc (fun fd F => F.bindsN fun _ _ _ _ _ _ us hl => match us, hl with | [_, _], _ => rfl) (k := 2) fun cdv A outer s H E hr tk hp hu hu1 => ?_
  exact (jss_cons (js_if (jt_not (jt_truth (je_isC C_Span.is rfl g_isinstance rfl C_Span.mg (jb_var 1)))) (jss_one js_stk) jss_nil)
  (jss_one (js_ret (je_cmp (op_eqX hu) k_eq (je_callK c_combined (hr.mono (by omega)) tk rfl (ja_cons (je_fld C_Span.cl na_Span_stretches (je_var 1)) (ja_cons (je_fld C_Span.cl na_Span_stretches (je_var 0)) (ja_cons (je_gk q_WITHOUT rfl n_WITHOUT) ja_nil)))) (je_tup ja_nil) (nomark _)))))
theorem sc_Span___gt__ : FnScope ["self", "other"] ["self", "other"] (defScope (clsDef (top 19) 8)) := ⟨rfl, rfl, rfl, by decide +kernel, rfl, by decide +kernel, by decide +kernel⟩
theorem ok_Span___gt__ (F : MtW K "Span" "__gt__" "Span.__gt__" (clsDef (top 19) 8) []) (C_Span : KC K mg "Span") (q_WITHOUT : GK K "WITHOUT" (.kt [(.bl false), (.bl false), (.bl true), (.bl false)])) (n_WITHOUT : mg "WITHOUT" = some (.ref (He.ga K "WITHOUT"))) (c_combined : Kn P w K mg base "combined" 2 ["one", "two", "keep"] f_combined) (g_isinstance : mg "isinstance" = none) (na_Span_stretches : NoAttr K (He.ga K "Span") "stretches") : KnM P w K mg base "Span" "__gt__" 3 ["self", "other"] f_Span___gt__ := by
  have sc := sc_Span___gt__
  refine knM_ok F sc (fun fd F => F.bindsN fun _ _ _ _ _ _ us hl => match us, hl with | [_, _], _ => rfl) (k := 2) fun cdv A outer s H E hr tk hp hu hu1 => ?_
  exact (jss_cons (js_if (jt_not (jt_truth (je_isC C_Span.is rfl g_isinstance rfl C_Span.mg (jb_var 1)))) (jss_one js_stk) jss_nil)
  (jss_one (js_ret (je_and (je_cmp (op_neX hu) k_ne (je_fld C_Span.cl na_Span_stretches (je_var 0)) (je_fld C_Span.cl na_Span_stretches (je_var 1)) (nomark _)) (je_one (je_cmp (op_eqX hu) k_eq (je_callK c_combined (hr.mono (by omega)) tk rfl (ja_cons (je_fld C_Span.cl na_Span_stretches (je_var 1)) (ja_cons (je_fld C_Span.cl na_Span_stretches (je_var 0)) (ja_cons (je_gk q_WITHOUT rfl n_WITHOUT) ja_nil)))) (je_tup ja_nil) (nomark _)))))))
theorem sc__law_orders : FnScope ["_law_one", "_law_other", "_law_due", "_law_backward", "_law_told", "_law_wanted", "_law_truth"] ["_law_one", "_law_other", "_law_due", "_law_backward"] (defScope (top 37)) := ⟨rfl, rfl, rfl, by decide +kernel, rfl, by decide +kernel, by decide +kernel⟩
theorem ok__law_orders (F : FnW K "_law_orders" (top 37)) (hm : mg "_law_orders" = some (.ref (He.ga K "_law_orders"))) (C_Span : KC K mg "Span") (o_Span___le__ : Own K (He.ga K "Span") (He.ma K (He.ga K "Span") "__le__") "__le__") (o_Span___lt__ : Own K (He.ga K "Span") (He.ma K (He.ga K "Span") "__lt__") "__lt__") (o_Span___ge__ : Own K (He.ga K "Span") (He.ma K (He.ga K "Span") "__ge__") "__ge__") (o_Span___gt__ : Own K (He.ga K "Span") (He.ma K (He.ga K "Span") "__gt__") "__gt__") (o_Span___eq__ : Own K (He.ga K "Span") (He.ma K (He.ga K "Span") "__eq__") "__eq__") (ne_Span : NoNe K (He.ga K "Span")) (c_Span___le__ : KnM P w K mg base "Span" "__le__" 3 ["self", "other"] f_Span___le__) (c_Span___lt__ : KnM P w K mg base "Span" "__lt__" 3 ["self", "other"] f_Span___lt__) (c_Span___ge__ : KnM P w K mg base "Span" "__ge__" 3 ["self", "other"] f_Span___ge__) (c_Span___gt__ : KnM P w K mg base "Span" "__gt__" 3 ["self", "other"] f_Span___gt__) (c_Span___eq__ : KnM P w K mg base "Span" "__eq__" 1 ["self", "other"] f_Span___eq__) (g_isinstance : mg "isinstance" = none) (g_bool : mg "bool" = none) (g_all : mg "all" = none) : Kn P w K mg base "_law_orders" 4 ["_law_one", "_law_other", "_law_due", "_law_backward"] f__law_orders := by
  have sc := sc__law_orders
  refine kn_ok F hm sc (fun _ _ _ _ _ _ us hl => match us, hl with | [_, _, _, _], _ => rfl) (k := 3) fun cdv A outer s H E hr tk hp hu hu1 => ?_
  exact (jss_cons (js_own sc.nd (i := 4) rfl (by first | exact Or.inl rfl | exact Or.inr rfl) (jf_lst (ja_cons (je_cmpK (fun _ _ => rfl) C_Span o_Span___le__ (by decide) c_Span___le__ (hr.mono (by omega)) (je_var 0) (je_var 1) (nomark _)) (ja_cons (je_cmpK (fun _ _ => rfl) C_Span o_Span___lt__ (by decide) c_Span___lt__ (hr.mono (by omega)) (je_var 0) (je_var 1) (nomark _)) (ja_cons (je_cmpK (fun _ _ => rfl) C_Span o_Span___ge__ (by decide) c_Span___ge__ (hr.mono (by omega)) (je_var 0) (je_var 1) (nomark _)) (ja_cons (je_cmpK (fun _ _ => rfl) C_Span o_Span___gt__ (by decide) c_Span___gt__ (hr.mono (by omega)) (je_var 0) (je_var 1) (nomark _)) (ja_cons (je_cmpK (fun _ _ => rfl) C_Span o_Span___eq__ (by decide) c_Span___eq__ (hr.mono (by omega)) (je_var 0) (je_var 1) (nomark _)) (ja_cons (je_neK C_Span ne_Span o_Span___eq__ c_Span___eq__ (hr.mono (by omega)) (je_var 0) (je_var 1) (nomark _)) ja_nil))))))))
  (jss_cons (js_own sc.nd (i := 5) rfl (by first | exact Or.inl rfl | exact Or.inr rfl) (jf_lst (ja_cons (je_var 2) (ja_cons (je_and (je_var 2) (je_one (je_not (je_var 3)))) (ja_cons (je_var 3) (ja_cons (je_and (je_var 3) (je_one (je_not (je_var 2)))) (ja_cons (je_and (je_var 2) (je_one (je_var 3))) (ja_cons (je_not (je_and (je_var 2) (je_one (je_var 3)))) ja_nil))))))))
  (jss_one (js_ret (je_and (je_cmp (op_eqX hu) k_eq (je_var 4) (je_var 5) (nomark _)) (je_one (je_b1 (cr_all rfl) k_all rfl g_all (by kernel_rfl) (jb_new (jf_lc (own := [("_law_truth", 6)]) rfl sc.nd (ji_seq (je_var 4)) (blk_ok (by kernel_rfl)) (fun s2 H2 C2 cl2 fp2 => (jg_name sc.nd rfl (by first | exact Or.inl rfl | exact Or.inr rfl))) (fun s2 H2 C2 cl2 fp2 => jts_nil) (fun s2 H2 C2 cl2 fp2 => (je_isi (T := "bool") (by decide) rfl g_isinstance rfl g_bool (by kernel_rfl) (jb_var 6))))))))))))
theorem sc_span_moved : FnScope ["stretches", "by", "told", "low", "high"] ["stretches", "by"] (defScope (top 16)) := ⟨rfl, rfl, rfl, by decide +kernel, rfl, by decide +kernel, by decide +kernel⟩
theorem ok_span_moved (F : FnW K "span_moved" (top 16)) (hm : mg "span_moved" = some (.ref (He.ga K "span_moved"))) (g_tuple : mg "tuple" = none) : Kn P w K mg base "span_moved" 1 ["stretches", "by"] f_span_moved := by
  have sc := sc_span_moved
  refine kn_ok F hm sc (fun _ _ _ _ _ _ us hl => match us, hl with | [_, _], _ => rfl) (k := 0) fun cdv A outer s H E hr tk hp hu hu1 => ?_
  exact (jss_cons (js_lc (own := [("low", 3), ("high", 4)]) rfl sc.nd (i := 2) rfl rfl (sw_true rfl rfl rfl (by kernel_rfl)) (ji_seq (je_var 0)) (blk_ok (by kernel_rfl)) (fun s2 H2 C2 cl2 fp2 => (jg_tup rfl (jgs_cons (jg_name sc.nd rfl (by first | exact Or.inl rfl | exact Or.inr rfl)) (jgs_cons (jg_name sc.nd rfl (by first | exact Or.inl rfl | exact Or.inr rfl)) jgs_nil)))) (fun s2 H2 C2 cl2 fp2 => jts_nil) (fun s2 H2 C2 cl2 fp2 => (je_tup (ja_cons (je_bin op_addX k_addX (je_var 3) (je_var 1)) (ja_cons (je_if (jt_cmp op_isN k_isN (je_var 4) je_non (nomark _)) je_non (je_bin op_addX k_addX (je_var 4) (je_var 1))) ja_nil)))))
  (jss_one (js_ret (je_t1 call_tuple_of k_tuple rfl g_tuple (by kernel_rfl) (jb_new (jf_lc (own := [("low", 3), ("high", 4)]) rfl sc.nd (ji_seq (je_var 2)) (blk_ok (by kernel_rfl)) (fun s2 H2 C2 cl2 fp2 => (jg_tup rfl (jgs_cons (jg_name sc.nd rfl (by first | exact Or.inl rfl | exact Or.inr rfl)) (jgs_cons (jg_name sc.nd rfl (by first | exact Or.inl rfl | exact Or.inr rfl)) jgs_nil)))) (fun s2 H2 C2 cl2 fp2 => (jts_one (JW.jt (jw_or (jt_cmp op_isN k_isN (je_var 4) je_non (nomark _)) (jw_or1 (jt_cmp op_ge k_ge (je_var 4) je_int (nomark _))))))) (fun s2 H2 C2 cl2 fp2 => (je_tup (ja_cons (je_if (jt_cmp op_gt k_gt (je_var 3) je_int (nomark _)) (je_var 3) je_int) (ja_cons (je_var 4) ja_nil))))))))))
theorem sc_is_whole : FnScope ["value"] ["value"] (defScope (top 5)) := ⟨rfl, rfl, rfl, by decide +kernel, rfl, by decide +kernel, by decide +kernel⟩
theorem ok_is_whole (F : FnW K "is_whole" (top 5)) (hm : mg "is_whole" = some (.ref (He.ga K "is_whole"))) (g_isinstance : mg "isinstance" = none) (g_bool : mg "bool" = none) (g_int : mg "int" = none) : Kn P w K mg base "is_whole" 1 ["value"] f_is_whole := by
  have sc := sc_is_whole
  refine kn_ok F hm sc (fun _ _ _ _ _ _ us hl => match us, hl with | [_], _ => rfl) (k := 0) fun cdv A outer s H E hr tk hp hu hu1 => ?_
  exact (jss_one (js_ret (je_and (je_isi (T := "int") (by decide) rfl g_isinstance rfl g_int (by kernel_rfl) (jb_var 0)) (je_one (je_not (je_isi (T := "bool") (by decide) rfl g_isinstance rfl g_bool (by kernel_rfl) (jb_var 0)))))))
theorem sc_is_stretch : FnScope ["value", "low", "high"] ["value"] (defScope (top 12)) := ⟨rfl, rfl, rfl, by decide +kernel, rfl, by decide +kernel, by decide +kernel⟩
theorem ok_is_stretch (F : FnW K "is_stretch" (top 12)) (hm : mg "is_stretch" = some (.ref (He.ga K "is_stretch"))) (c_is_whole : Kn P w K mg base "is_whole" 1 ["value"] f_is_whole) (g_len : mg "len" = none) (g_isinstance : mg "isinstance" = none) (g_tuple : mg "tuple" = none) : Kn P w K mg base "is_stretch" 2 ["value"] f_is_stretch := by
  have sc := sc_is_stretch
  refine kn_ok F hm sc (fun _ _ _ _ _ _ us hl => match us, hl with | [_], _ => rfl) (k := 1) fun cdv A outer s H E hr tk hp hu hu1 => ?_
  exact (jss_cons (js_if (JW.jt (jw_or (jt_not (jt_truth (je_isi (T := "tuple") (by decide) rfl g_isinstance rfl g_tuple (by kernel_rfl) (jb_var 0)))) (jw_or1 (jt_cmp (op_neX hu) k_ne (je_b1 call_len k_len rfl g_len (by kernel_rfl) (jb_var 0)) je_int (nomark _))))) (jss_one (js_ret je_bl)) jss_nil)
  (jss_cons (js_asg (je_var 0) (jg_tl rfl (jgs_cons (jg_name sc.nd rfl (by first | exact Or.inl rfl | exact Or.inr rfl)) (jgs_cons (jg_name sc.nd rfl (by first | exact Or.inl rfl | exact Or.inr rfl)) jgs_nil))))
  (jss_cons (js_if (JW.jt (jw_or (jt_not (jt_truth (je_callK c_is_whole (hr.mono (by omega)) tk rfl (ja_cons (je_var 1) ja_nil)))) (jw_or1 (jt_cmp op_lt k_lt (je_var 1) je_int (nomark _))))) (jss_one (js_ret je_bl)) jss_nil)
  (jss_one (js_ret (je_or (je_cmp op_isN k_isN (je_var 2) je_non (nomark _)) (je_one (je_and (je_callK c_is_whole (hr.mono (by omega)) tk rfl (ja_cons (je_var 2) ja_nil)) (je_one (je_cmp op_ge k_ge (je_var 2) (je_var 1) (nomark _)))))))))))
theorem sc_Span___init__ : FnScope ["self", "stretches", "told", "stretch"] ["self", "stretches"] (defScope (clsDef (top 19) 0)) := ⟨rfl, rfl, rfl, by decide +kernel, rfl, by decide +kernel, by decide +kernel⟩
theorem ok_Span___init__ {d0 : V} (F : MtW K "Span" "__init__" "Span.__init__" (clsDef (top 19) 0) [d0]) (C_Span : KC K mg "Span") (q_UNION : GK K "UNION" (.kt [(.bl false), (.bl true), (.bl true), (.bl true)])) (n_UNION : mg "UNION" = some (.ref (He.ga K "UNION"))) (c_combined : Kn P w K mg base "combined" 2 ["one", "two", "keep"] f_combined) (c_is_stretch : Kn P w K mg base "is_stretch" 2 ["value"] f_is_stretch) (g_isinstance : mg "isinstance" = none) (g_list : mg "list" = none) (g_tuple : mg "tuple" = none) (n_BadValue : mg "BadValue" = some (.ref (He.ga K "BadValue"))) (x_BadValue : XF P K mg "BadValue" "shown") (na_Span_stretches : NoAttr K (He.ga K "Span") "stretches") : KnM P w K mg base "Span" "__init__" 3 ["self", "stretches"] f_Span___init__ := by
  have sc := sc_Span___init__
  refine knM_ok F sc (fun fd F => binds_full F fun _ _ _ _ _ _ _ us its hl hi => match us, hl, its, hi with | [_, _], _, [_], _ => ⟨_, rfl, rfl⟩) (k := 2) fun cdv A outer s H E hr tk hp hu hu1 => ?_
  exact (jss_cons (js_if (jt_not (jt_truth (je_isi2 (T := "list") (U := "tuple") (by decide) (by decide) rfl g_isinstance rfl g_list (by kernel_rfl) rfl g_tuple (by kernel_rfl) (je_var 1)))) (jss_one (js_raise rfl x_BadValue.1 n_BadValue hr tk (je_var 1) rfl)) jss_nil)
  (jss_cons (js_set sc.nd (i := 2) rfl (by first | exact Or.inl rfl | exact Or.inr rfl) (je_tup ja_nil))
  (jss_cons (js_for hp rfl (ji_seq (je_var 1)) (jg_name sc.nd rfl (by first | exact Or.inl rfl | exact Or.inr rfl)) (jss_cons (js_if (jt_not (jt_truth (je_callK c_is_stretch (hr.mono (by omega)) tk rfl (ja_cons (je_var 3) ja_nil)))) (jss_one (js_raise rfl x_BadValue.1 n_BadValue hr tk (je_var 3) rfl)) jss_nil)
  (jss_one (js_set sc.nd (i := 2) rfl (by first | exact Or.inl rfl | exact Or.inr rfl) (je_callK c_combined (hr.mono (by omega)) tk rfl (ja_cons (je_var 2) (ja_cons (je_tup (ja_cons (je_var 3) ja_nil)) (ja_cons (je_gk q_UNION rfl n_UNION) ja_nil))))))))
  (jss_one (js_setF C_Span.cl na_Span_stretches (je_var 0) (je_var 2))))))
theorem sc_Span___lshift__ : FnScope ["self", "k"] ["self", "k"] (defScope (clsDef (top 19) 18)) := ⟨rfl, rfl, rfl, by decide +kernel, rfl, by decide +kernel, by decide +kernel⟩
theorem ok_Span___lshift__ (F : MtW K "Span" "__lshift__" "Span.__lshift__" (clsDef (top 19) 18) []) (C_Span : KC K mg "Span") (c_span_moved : Kn P w K mg base "span_moved" 1 ["stretches", "by"] f_span_moved) (c_Span___init__ : KnM P w K mg base "Span" "__init__" 3 ["self", "stretches"] f_Span___init__) (c_is_whole : Kn P w K mg base "is_whole" 1 ["value"] f_is_whole) (n_BadValue : mg "BadValue" = some (.ref (He.ga K "BadValue"))) (x_BadValue : XF P K mg "BadValue" "shown") (na_Span_stretches : NoAttr K (He.ga K "Span") "stretches") : KnM P w K mg base "Span" "__lshift__" 5 ["self", "k"] f_Span___lshift__ := by
  have sc := sc_Span___lshift__
  refine knM_ok F sc (fun fd F => F.bindsN fun _ _ _ _ _ _ us hl => match us, hl with | [_, _], _ => rfl) (k := 4) fun cdv A outer s H E hr tk hp hu hu1 => ?_
  exact (jss_cons (js_if (jt_not (jt_truth (je_callK c_is_whole (hr.mono (by omega)) tk rfl (ja_cons (je_var 1) ja_nil)))) (jss_one (js_raise rfl x_BadValue.1 n_BadValue hr tk (je_var 1) rfl)) jss_nil)
  (jss_one (js_ret (je_makeK C_Span c_Span___init__ (hr.mono (by omega)) tk rfl (ja_cons (je_callK c_span_moved (hr.mono (by omega)) tk rfl (ja_cons (je_fld C_Span.cl na_Span_stretches (je_var 0)) (ja_cons (je_neg (je_var 1)) ja_nil))) ja_nil)))))
theorem sc__law_within : FnScope ["_law_stretches_here", "_law_n", "_law_low", "_law_high"] ["_law_stretches_here", "_law_n"] (defScope (top 30)) := ⟨rfl, rfl, rfl, by decide +kernel, rfl, by decide +kernel, by decide +kernel⟩
theorem ok__law_within (F : FnW K "_law_within" (top 30)) (hm : mg "_law_within" = some (.ref (He.ga K "_law_within"))) (g_any : mg "any" = none) : Kn P w K mg base "_law_within" 1 ["_law_stretches_here", "_law_n"] f__law_within := by
  have sc := sc__law_within
  refine kn_ok F hm sc (fun _ _ _ _ _ _ us hl => match us, hl with | [_, _], _ => rfl) (k := 0) fun cdv A outer s H E hr tk hp hu hu1 => ?_
  exact (jss_one (js_ret (je_b1 (cr_any rfl) k_any rfl g_any (by kernel_rfl) (jb_new (jf_lc (own := [("_law_low", 2), ("_law_high", 3)]) rfl sc.nd (ji_seq (je_var 0)) (blk_ok (by kernel_rfl)) (fun s2 H2 C2 cl2 fp2 => (jg_tup rfl (jgs_cons (jg_name sc.nd rfl (by first | exact Or.inl rfl | exact Or.inr rfl)) (jgs_cons (jg_name sc.nd rfl (by first | exact Or.inl rfl | exact Or.inr rfl)) jgs_nil)))) (fun s2 H2 C2 cl2 fp2 => jts_nil) (fun s2 H2 C2 cl2 fp2 => (je_and (je_cmp op_le k_le (je_var 2) (je_var 1) (nomark _)) (je_one (je_or (je_cmp op_isN k_isN (je_var 3) je_non (nomark _)) (je_one (je_cmp op_le k_le (je_var 1) (je_var 3) (nomark _))))))))))))
theorem sc__law_highs : FnScope ["_law_lows", "_law_low"] ["_law_lows"] (defScope (top 29)) := ⟨rfl, rfl, rfl, by decide +kernel, rfl, by decide +kernel, by decide +kernel⟩
theorem ok__law_highs (F : FnW K "_law_highs" (top 29)) (hm : mg "_law_highs" = some (.ref (He.ga K "_law_highs"))) : Kn P w K mg base "_law_highs" 1 ["_law_lows"] f__law_highs := by
  have sc := sc__law_highs
  refine kn_ok F hm sc (fun _ _ _ _ _ _ us hl => match us, hl with | [_], _ => rfl) (k := 0) fun cdv A outer s H E hr tk hp hu hu1 => ?_
  exact (jss_one (js_ret (je_fz (jf_bin op_cat k_laddF (je_fz (jf_lc (own := [("_law_low", 1)]) rfl sc.nd (ji_seq (je_slN 0 (jo_some je_int) jo_none)) (blk_ok (by kernel_rfl)) (fun s2 H2 C2 cl2 fp2 => (jg_name sc.nd rfl (by first | exact Or.inl rfl | exact Or.inr rfl))) (fun s2 H2 C2 cl2 fp2 => jts_nil) (fun s2 H2 C2 cl2 fp2 => (je_bin op_sub k_sub (je_var 1) je_int)))) (je_fz (jf_lst (ja_cons je_non ja_nil)))))))
theorem sc__law_joined : FnScope ["_law_parts", "_law_found", "_law_low", "_law_high", "_law_mark"] ["_law_parts"] (defScope (top 28)) := ⟨rfl, rfl, rfl, by decide +kernel, rfl, by decide +kernel, by decide +kernel⟩
theorem ok__law_joined (F : FnW K "_law_joined" (top 28)) (hm : mg "_law_joined" = some (.ref (He.ga K "_law_joined"))) : Kn P w K mg base "_law_joined" 1 ["_law_parts"] f__law_joined := by
  have sc := sc__law_joined
  refine kn_ok F hm sc (fun _ _ _ _ _ _ us hl => match us, hl with | [_], _ => rfl) (k := 0) fun cdv A outer s H E hr tk hp hu hu1 => ?_
  exact (jss_cons (js_own sc.nd (i := 1) rfl (by first | exact Or.inl rfl | exact Or.inr rfl) (jf_lst ja_nil))
  (jss_cons (js_for hp rfl (ji_seq (je_var 0)) (jg_tup rfl (jgs_cons (jg_name sc.nd rfl (by first | exact Or.inl rfl | exact Or.inr rfl)) (jgs_cons (jg_name sc.nd rfl (by first | exact Or.inl rfl | exact Or.inr rfl)) (jgs_cons (jg_name sc.nd rfl (by first | exact Or.inl rfl | exact Or.inr rfl)) jgs_nil)))) (jss_one (js_if (JW.jt (jw_and (jt_neV 1 hu (je_fz (jf_lst ja_nil))) (jw_and1 (jt_cmp (op_eqX hu) k_eq (je_ix (je_ixV 1 (je_neg je_int)) je_int) (je_var 4) (nomark _))))) (jss_one (js_setIx (je_tup (ja_cons (je_ix (je_ixV 1 (je_neg je_int)) je_int) (ja_cons (je_var 3) (ja_cons (je_var 4) ja_nil)))) (je_neg je_int))) (jss_one (js_expr (je_app (je_tup (ja_cons (je_var 2) (ja_cons (je_var 3) (ja_cons (je_var 4) ja_nil))))))))))
  (jss_one (js_ret (je_var 1)))))
theorem sc__law_spread : FnScope ["_law_points_here", "_law_inside", "_law_parts", "_law_low", "_law_high", "_law_truth"] ["_law_points_here", "_law_inside"] (defScope (top 32)) := ⟨rfl, rfl, rfl, by decide +kernel, rfl, by decide +kernel, by decide +kernel⟩
theorem ok__law_spread (F : FnW K "_law_spread" (top 32)) (hm : mg "_law_spread" = some (.ref (He.ga K "_law_spread"))) (c__law_highs : Kn P w K mg base "_law_highs" 1 ["_law_lows"] f__law_highs) (c__law_joined : Kn P w K mg base "_law_joined" 1 ["_law_parts"] f__law_joined) (g_tuple : mg "tuple" = none) (g_zip : mg "zip" = none) : Kn P w K mg base "_law_spread" 2 ["_law_points_here", "_law_inside"] f__law_spread := by
  have sc := sc__law_spread
  refine kn_ok F hm sc (fun _ _ _ _ _ _ us hl => match us, hl with | [_, _], _ => rfl) (k := 1) fun cdv A outer s H E hr tk hp hu hu1 => ?_
  exact (jss_cons (js_set sc.nd (i := 2) rfl (by first | exact Or.inl rfl | exact Or.inr rfl) (je_callK c__law_joined (hr.mono (by omega)) tk rfl (ja_cons (je_fz (jf_lc (own := [("_law_low", 3), ("_law_high", 4), ("_law_truth", 5)]) rfl sc.nd (ji_zip3 rfl g_zip (ja_cons (je_var 0) (ja_cons (je_callK c__law_highs (hr.mono (by omega)) tk rfl (ja_cons (je_var 0) ja_nil)) (ja_cons (je_var 1) ja_nil)))) (blk_ok (by kernel_rfl)) (fun s2 H2 C2 cl2 fp2 => (jg_tup rfl (jgs_cons (jg_name sc.nd rfl (by first | exact Or.inl rfl | exact Or.inr rfl)) (jgs_cons (jg_name sc.nd rfl (by first | exact Or.inl rfl | exact Or.inr rfl)) (jgs_cons (jg_name sc.nd rfl (by first | exact Or.inl rfl | exact Or.inr rfl)) jgs_nil))))) (fun s2 H2 C2 cl2 fp2 => jts_nil) (fun s2 H2 C2 cl2 fp2 => (je_tup (ja_cons (je_var 3) (ja_cons (je_var 4) (ja_cons (je_var 5) ja_nil))))))) ja_nil)))
  (jss_one (js_ret (je_t1 call_tuple_of k_tuple rfl g_tuple (by kernel_rfl) (jb_new (jf_lc (own := [("_law_low", 3), ("_law_high", 4), ("_law_truth", 5)]) rfl sc.nd (ji_seq (je_var 2)) (blk_ok (by kernel_rfl)) (fun s2 H2 C2 cl2 fp2 => (jg_tup rfl (jgs_cons (jg_name sc.nd rfl (by first | exact Or.inl rfl | exact Or.inr rfl)) (jgs_cons (jg_name sc.nd rfl (by first | exact Or.inl rfl | exact Or.inr rfl)) (jgs_cons (jg_name sc.nd rfl (by first | exact Or.inl rfl | exact Or.inr rfl)) jgs_nil))))) (fun s2 H2 C2 cl2 fp2 => (jts_one (jt_truthV 5))) (fun s2 H2 C2 cl2 fp2 => (je_tup (ja_cons (je_var 3) (ja_cons (je_var 4) ja_nil))))))))))
theorem sc__law_points : FnScope ["_law_stretches_here", "_law_seams", "_law_low", "_law_high", "_law_n"] ["_law_stretches_here"] (defScope (top 31)) := ⟨rfl, rfl, rfl, by decide +kernel, rfl, by decide +kernel, by decide +kernel⟩
theorem ok__law_points (F : FnW K "_law_points" (top 31)) (hm : mg "_law_points" = some (.ref (He.ga K "_law_points"))) (g_int : mg "int" = none) (g_sorted : mg "sorted" = none) (g_set : mg "set" = none) : Kn P w K mg base "_law_points" 1 ["_law_stretches_here"] f__law_points := by
  have sc := sc__law_points
  refine kn_ok F hm sc (fun _ _ _ _ _ _ us hl => match us, hl with | [_], _ => rfl) (k := 0) fun cdv A outer s H E hr tk hp hu hu1 => ?_
  exact (jss_cons (js_own sc.nd (i := 1) rfl (by first | exact Or.inl rfl | exact Or.inr rfl) (jf_bin op_cat k_laddF (je_fz (jf_bin op_cat k_laddF (je_fz (jf_lst (ja_cons je_int ja_nil))) (je_fz (jf_lc (own := [("_law_low", 2), ("_law_high", 3)]) rfl sc.nd (ji_seq (je_var 0)) (blk_ok (by kernel_rfl)) (fun s2 H2 C2 cl2 fp2 => (jg_tup rfl (jgs_cons (jg_name sc.nd rfl (by first | exact Or.inl rfl | exact Or.inr rfl)) (jgs_cons (jg_name sc.nd rfl (by first | exact Or.inl rfl | exact Or.inr rfl)) jgs_nil)))) (fun s2 H2 C2 cl2 fp2 => jts_nil) (fun s2 H2 C2 cl2 fp2 => (je_var 2)))))) (je_fz (jf_lc (own := [("_law_low", 2), ("_law_high", 3)]) rfl sc.nd (ji_seq (je_var 0)) (blk_ok (by kernel_rfl)) (fun s2 H2 C2 cl2 fp2 => (jg_tup rfl (jgs_cons (jg_name sc.nd rfl (by first | exact Or.inl rfl | exact Or.inr rfl)) (jgs_cons (jg_name sc.nd rfl (by first | exact Or.inl rfl | exact Or.inr rfl)) jgs_nil)))) (fun s2 H2 C2 cl2 fp2 => (jts_one (jt_cmp op_notN k_notN (je_var 3) je_non (nomark _)))) (fun s2 H2 C2 cl2 fp2 => (je_bin op_addX k_addX (je_var 3) je_int))))))
  (jss_one (js_ret (je_fz (jf_srtU rfl rfl g_sorted rfl g_set (jb_new (jf_lc (own := [("_law_n", 4)]) rfl sc.nd (ji_seq (je_var 1)) (blk_ok (by kernel_rfl)) (fun s2 H2 C2 cl2 fp2 => (jg_name sc.nd rfl (by first | exact Or.inl rfl | exact Or.inr rfl))) (fun s2 H2 C2 cl2 fp2 => jts_nil) (fun s2 H2 C2 cl2 fp2 => (je_t1 call_int1 k_int rfl g_int (by kernel_rfl) (jb_var 4))))))))))
theorem sc__law_united : FnScope ["_law_stretches_here", "_law_points_here", "_law_n"] ["_law_stretches_here"] (defScope (top 33)) := ⟨rfl, rfl, rfl, by decide +kernel, rfl, by decide +kernel, by decide +kernel⟩
theorem ok__law_united (F : FnW K "_law_united" (top 33)) (hm : mg "_law_united" = some (.ref (He.ga K "_law_united"))) (c__law_within : Kn P w K mg base "_law_within" 1 ["_law_stretches_here", "_law_n"] f__law_within) (c__law_spread : Kn P w K mg base "_law_spread" 2 ["_law_points_here", "_law_inside"] f__law_spread) (c__law_points : Kn P w K mg base "_law_points" 1 ["_law_stretches_here"] f__law_points) : Kn P w K mg base "_law_united" 3 ["_law_stretches_here"] f__law_united := by
  have sc := sc__law_united
  refine kn_ok F hm sc (fun _ _ _ _ _ _ us hl => match us, hl with | [_], _ => rfl) (k := 2) fun cdv A outer s H E hr tk hp hu hu1 => ?_
  exact (jss_cons (js_set sc.nd (i := 1) rfl (by first | exact Or.inl rfl | exact Or.inr rfl) (je_callK c__law_points (hr.mono (by omega)) tk rfl (ja_cons (je_var 0) ja_nil)))
  (jss_one (js_ret (je_callK c__law_spread (hr.mono (by omega)) tk rfl (ja_cons (je_var 1) (ja_cons (je_fz (jf_lc (own := [("_law_n", 2)]) rfl sc.nd (ji_seq (je_var 1)) (blk_ok (by kernel_rfl)) (fun s2 H2 C2 cl2 fp2 => (jg_name sc.nd rfl (by first | exact Or.inl rfl | exact Or.inr rfl))) (fun s2 H2 C2 cl2 fp2 => jts_nil) (fun s2 H2 C2 cl2 fp2 => (je_callK c__law_within (hr.mono (by omega)) tkF rfl (ja_cons (je_var 0) (ja_cons (je_var 2) ja_nil)))))) ja_nil))))))
theorem sc__law_moved_by : FnScope ["_law_stretches_here", "_law_by", "_law_rows", "_law_low", "_law_high"] ["_law_stretches_here", "_law_by"] (defScope (top 38)) := ⟨rfl, rfl, rfl, by decide +kernel, rfl, by decide +kernel, by decide +kernel⟩
theorem ok__law_moved_by (F : FnW K "_law_moved_by" (top 38)) (hm : mg "_law_moved_by" = some (.ref (He.ga K "_law_moved_by"))) (c__law_united : Kn P w K mg base "_law_united" 3 ["_law_stretches_here"] f__law_united) (g_max : mg "max" = none) : Kn P w K mg base "_law_moved_by" 4 ["_law_stretches_here", "_law_by"] f__law_moved_by := by
  have sc := sc__law_moved_by
  refine kn_ok F hm sc (fun _ _ _ _ _ _ us hl => match us, hl with | [_, _], _ => rfl) (k := 3) fun cdv A outer s H E hr tk hp hu hu1 => ?_
  exact (jss_cons (js_lc (own := [("_law_low", 3), ("_law_high", 4)]) rfl sc.nd (i := 2) rfl rfl (sw_true rfl rfl rfl (by kernel_rfl)) (ji_seq (je_var 0)) (blk_ok (by kernel_rfl)) (fun s2 H2 C2 cl2 fp2 => (jg_tup rfl (jgs_cons (jg_name sc.nd rfl (by first | exact Or.inl rfl | exact Or.inr rfl)) (jgs_cons (jg_name sc.nd rfl (by first | exact Or.inl rfl | exact Or.inr rfl)) jgs_nil)))) (fun s2 H2 C2 cl2 fp2 => jts_nil) (fun s2 H2 C2 cl2 fp2 => (je_tup (ja_cons (je_bin op_addX k_addX (je_var 3) (je_var 1)) (ja_cons (je_if (jt_cmp op_isN k_isN (je_var 4) je_non (nomark _)) je_non (je_bin op_addX k_addX (je_var 4) (je_var 1))) ja_nil)))))
  (jss_one (js_ret (je_callK c__law_united (hr.mono (by omega)) tk rfl (ja_cons (je_fz (jf_lc (own := [("_law_low", 3), ("_law_high", 4)]) rfl sc.nd (ji_seq (je_var 2)) (blk_ok (by kernel_rfl)) (fun s2 H2 C2 cl2 fp2 => (jg_tup rfl (jgs_cons (jg_name sc.nd rfl (by first | exact Or.inl rfl | exact Or.inr rfl)) (jgs_cons (jg_name sc.nd rfl (by first | exact Or.inl rfl | exact Or.inr rfl)) jgs_nil)))) (fun s2 H2 C2 cl2 fp2 => (jts_one (JW.jt (jw_or (jt_cmp op_isN k_isN (je_var 4) je_non (nomark _)) (jw_or1 (jt_cmp op_ge k_ge (je_var 4) je_int (nomark _))))))) (fun s2 H2 C2 cl2 fp2 => (je_tup (ja_cons (je_max2 rfl rfl g_max (ja_cons je_int (ja_cons (je_var 3) ja_nil))) (ja_cons (je_var 4) ja_nil)))))) ja_nil)))))
theorem sc_Span___rshift__ : FnScope ["self", "k"] ["self", "k"] (defScope (clsDef (top 19) 17)) := ⟨rfl, rfl, rfl, by decide +kernel, rfl, by decide +kernel, by decide +kernel⟩
theorem ok_Span___rshift__ (F : MtW K "Span" "__rshift__" "Span.__rshift__" (clsDef (top 19) 17) []) (C_Span : KC K mg "Span") (c_span_moved : Kn P w K mg base "span_moved" 1 ["stretches", "by"] f_span_moved) (c_Span___init__ : KnM P w K mg base "Span" "__init__" 3 ["self", "stretches"] f_Span___init__) (c_is_whole : Kn P w K mg base "is_whole" 1 ["value"] f_is_whole) (n_BadValue : mg "BadValue" = some (.ref (He.ga K "BadValue"))) (x_BadValue : XF P K mg "BadValue" "shown") (na_Span_stretches : NoAttr K (He.ga K "Span") "stretches") : KnM P w K mg base "Span" "__rshift__" 5 ["self", "k"] f_Span___rshift__ := by
  have sc := sc_Span___rshift__
  refine knM_ok F sc (fun fd F => F.bindsN fun _ _ _ _ _ _ us hl => match us, hl with | [_, _], _ => rfl) (k := 4) fun cdv A outer s H E hr tk hp hu hu1 => ?_
  exact (jss_cons (js_if (jt_not (jt_truth (je_callK c_is_whole (hr.mono (by omega)) tk rfl (ja_cons (je_var 1) ja_nil)))) (jss_one (js_raise rfl x_BadValue.1 n_BadValue hr tk (je_var 1) rfl)) jss_nil)
  (jss_one (js_ret (je_makeK C_Span c_Span___init__ (hr.mono (by omega)) tk rfl (ja_cons (je_callK c_span_moved (hr.mono (by omega)) tk rfl (ja_cons (je_fld C_Span.cl na_Span_stretches (je_var 0)) (ja_cons (je_var 1) ja_nil))) ja_nil)))))
theorem sc__law_draw : FnScope ["_law_pen_here", "_law_many", "_law_digit", "_law_spot", "_law_size", "_law_cell", "_law_stir"] ["_law_pen_here", "_law_many"] (defScope (top 22)) := ⟨rfl, rfl, rfl, by decide +kernel, rfl, by decide +kernel, by decide +kernel⟩
theorem ok__law_draw (F : FnW K "_law_draw" (top 22)) (hm : mg "_law_draw" = some (.ref (He.ga K "_law_draw"))) (g_int : mg "int" = none) (g_abs : mg "abs" = none) (g_len : mg "len" = none) : Kn P w K mg base "_law_draw" 1 ["_law_pen_here", "_law_many"] f__law_draw := by
  have sc := sc__law_draw
  refine kn_ok F hm sc (fun _ _ _ _ _ _ us hl => match us, hl with | [_, _], _ => rfl) (k := 0) fun cdv A outer s H E hr tk hp hu hu1 => ?_
  exact (jss_cons (js_if (jt_cmp op_gt k_gt (je_get (k := .inr "rest") hu1 (je_var 0) pe_str) je_int (nomark _)) (jss_cons (js_set sc.nd (i := 2) rfl (by first | exact Or.inl rfl | exact Or.inr rfl) (je_bin op_mod k_mod (je_t1 call_int1 k_int rfl g_int (by kernel_rfl) (jb_of (je_get (k := .inr "rest") hu1 (je_var 0) pe_str))) (je_var 1)))
  (jss_cons (js_put (k := .inr "rest") hu1 (je_var 0) pe_str (je_bin op_fdivW k_div (je_get (k := .inr "rest") hu1 (je_var 0) pe_str) (je_var 1)))
  (jss_one (js_ret (je_var 2))))) jss_nil)
  (jss_cons (js_par rfl sc.nd (i := 3) (j := 4) rfl rfl (by decide) rfl rfl (ja_cons (je_get (k := .inr "begun") hu1 (je_var 0) pe_str) (ja_cons (je_b1 call_len k_len rfl g_len (by kernel_rfl) (jb_of (je_get (k := .inr "cells") hu1 (je_var 0) pe_str))) ja_nil)) rfl)
  (jss_cons (js_put (k := .inr "begun") hu1 (je_var 0) pe_str (je_bin op_addX k_addX (je_var 3) je_int))
  (jss_cons (js_set sc.nd (i := 5) rfl (by first | exact Or.inl rfl | exact Or.inr rfl) (je_bin op_addX k_addX (je_bin op_mulX k_mulX je_int (je_var 3)) je_int))
  (jss_cons (js_if (jt_cmp op_gt k_gt (je_var 4) je_int (nomark _)) (jss_one (js_set sc.nd (i := 5) rfl (by first | exact Or.inl rfl | exact Or.inr rfl) (je_ix (je_get (k := .inr "cells") hu1 (je_var 0) pe_str) (je_bin op_mod k_mod (je_t1 call_int1 k_int rfl g_int (by kernel_rfl) (jb_var 3)) (je_var 4))))) jss_nil)
  (jss_cons (js_if (JW.jt (jw_and (jt_cmp op_lt k_lt (je_var 3) (je_var 4) (nomark _)) (jw_and1 (jt_cmp op_ge k_ge (je_b1 call_abs k_abs rfl g_abs (by kernel_rfl) (jb_var 5)) (je_bin op_pow k_pow je_int je_int) (nomark _))))) (jss_cons (js_put (k := .inr "rest") hu1 (je_var 0) pe_str (je_bin op_fdivW k_div (je_bin op_sub k_sub (je_b1 call_abs k_abs rfl g_abs (by kernel_rfl) (jb_var 5)) (je_bin op_pow k_pow je_int je_int)) (je_var 1)))
  (jss_one (js_ret (je_bin op_mod k_mod (je_bin op_sub k_sub (je_b1 call_abs k_abs rfl g_abs (by kernel_rfl) (jb_var 5)) (je_bin op_pow k_pow je_int je_int)) (je_var 1))))) jss_nil)
  (jss_cons (js_set sc.nd (i := 6) rfl (by first | exact Or.inl rfl | exact Or.inr rfl) (je_bin op_mod k_mod (je_t1 call_int1 k_int rfl g_int (by kernel_rfl) (jb_of (je_bin op_addX k_addX (je_bin op_addX k_addX (je_bin op_mulX k_mulX (je_bin op_mod k_mod (je_t1 call_int1 k_int rfl g_int (by kernel_rfl) (jb_var 5)) je_int) je_int) (je_bin op_mulX k_mulX (je_bin op_mulX k_mulX je_int (je_var 3)) (je_var 3))) je_int))) je_int))
  (jss_cons (js_set sc.nd (i := 6) rfl (by first | exact Or.inl rfl | exact Or.inr rfl) (je_bin op_mod k_mod (je_t1 call_int1 k_int rfl g_int (by kernel_rfl) (jb_of (je_bin op_addX k_addX (je_bin op_addX k_addX (je_bin op_addX k_addX (je_bin op_mulX k_mulX (je_var 6) (je_var 6)) (je_bin op_mulX k_mulX je_int (je_var 6))) (je_bin op_mulX k_mulX je_int (je_var 3))) je_int))) je_int))
  (jss_cons (js_set sc.nd (i := 6) rfl (by first | exact Or.inl rfl | exact Or.inr rfl) (je_bin op_fdivW k_div (je_bin op_mod k_mod (je_t1 call_int1 k_int rfl g_int (by kernel_rfl) (jb_of (je_bin op_mulX k_mulX (je_var 6) (je_bin op_addX k_addX (je_var 6) je_int)))) je_int) je_int))
  (jss_one (js_ret (je_bin op_mod k_mod (je_t1 call_int1 k_int rfl g_int (by kernel_rfl) (jb_var 6)) (je_var 1)))))))))))))
theorem sc__law_great : FnScope ["_law_pen_here", "_law_many", "_law_amount", "_law_size"] ["_law_pen_here", "_law_many"] (defScope (top 25)) := ⟨rfl, rfl, rfl, by decide +kernel, rfl, by decide +kernel, by decide +kernel⟩
theorem ok__law_great (F : FnW K "_law_great" (top 25)) (hm : mg "_law_great" = some (.ref (He.ga K "_law_great"))) (c__law_draw : Kn P w K mg base "_law_draw" 1 ["_law_pen_here", "_law_many"] f__law_draw) (g_int : mg "int" = none) : Kn P w K mg base "_law_great" 2 ["_law_pen_here", "_law_many"] f__law_great := by
  have sc := sc__law_great
  refine kn_ok F hm sc (fun _ _ _ _ _ _ us hl => match us, hl with | [_, _], _ => rfl) (k := 1) fun cdv A outer s H E hr tk hp hu hu1 => ?_
  exact (jss_cons (js_asg (je_tup (ja_cons je_int (ja_cons je_int ja_nil))) (jg_tl rfl (jgs_cons (jg_name sc.nd rfl (by first | exact Or.inl rfl | exact Or.inr rfl)) (jgs_cons (jg_name sc.nd rfl (by first | exact Or.inl rfl | exact Or.inr rfl)) jgs_nil))))
  (jss_cons (js_while hp (jt_cmp op_lt k_lt (je_var 3) (je_var 1) (nomark _)) (jss_one (js_par rfl sc.nd (i := 2) (j := 3) rfl rfl (by decide) rfl rfl (ja_cons (je_bin op_addX k_addX (je_bin op_mulX k_mulX (je_var 2) (je_bin op_pow k_pow je_int je_int)) (je_callK c__law_draw (hr.mono (by omega)) tk rfl (ja_cons (je_var 0) (ja_cons (je_bin op_pow k_pow je_int je_int) ja_nil)))) (ja_cons (je_bin op_mulX k_mulX (je_var 3) (je_bin op_pow k_pow je_int je_int)) ja_nil)) rfl)))
  (jss_one (js_ret (je_bin op_mod k_mod (je_t1 call_int1 k_int rfl g_int (by kernel_rfl) (jb_var 2)) (je_var 1))))))
theorem sc__law_integer : FnScope ["_law_pen_here", "_law_way", "_law_side"] ["_law_pen_here"] (defScope (top 26)) := ⟨rfl, rfl, rfl, by decide +kernel, rfl, by decide +kernel, by decide +kernel⟩
theorem ok__law_integer (F : FnW K "_law_integer" (top 26)) (hm : mg "_law_integer" = some (.ref (He.ga K "_law_integer"))) (c__law_draw : Kn P w K mg base "_law_draw" 1 ["_law_pen_here", "_law_many"] f__law_draw) (c__law_great : Kn P w K mg base "_law_great" 2 ["_law_pen_here", "_law_many"] f__law_great) : Kn P w K mg base "_law_integer" 3 ["_law_pen_here"] f__law_integer := by
  have sc := sc__law_integer
  refine kn_ok F hm sc (fun _ _ _ _ _ _ us hl => match us, hl with | [_], _ => rfl) (k := 2) fun cdv A outer s H E hr tk hp hu hu1 => ?_
  exact (jss_cons (js_par rfl sc.nd (i := 1) (j := 2) rfl rfl (by decide) rfl rfl (ja_cons (je_callK c__law_draw (hr.mono (by omega)) tk rfl (ja_cons (je_var 0) (ja_cons je_int ja_nil))) (ja_cons (je_bin op_sub k_sub je_int (je_bin op_mulX k_mulX je_int (je_callK c__law_draw (hr.mono (by omega)) tk rfl (ja_cons (je_var 0) (ja_cons je_int ja_nil))))) ja_nil)) rfl)
  (jss_cons (js_if (jt_cmp (op_eqX hu) k_eq (je_var 1) je_int (nomark _)) (jss_one (js_ret je_int)) jss_nil)
  (jss_cons (js_if (jt_cmp op_lt k_lt (je_var 1) je_int (nomark _)) (jss_one (js_ret (je_bin op_mulX k_mulX (je_var 2) (je_callK c__law_draw (hr.mono (by omega)) tk rfl (ja_cons (je_var 0) (ja_cons je_int ja_nil)))))) jss_nil)
  (jss_cons (js_if (jt_cmp (op_eqX hu) k_eq (je_var 1) je_int (nomark _)) (jss_one (js_ret (je_bin op_mulX k_mulX (je_var 2) (je_callK c__law_draw (hr.mono (by omega)) tk rfl (ja_cons (je_var 0) (ja_cons je_int ja_nil)))))) jss_nil)
  (jss_one (js_ret (je_bin op_mulX k_mulX (je_var 2) (je_if (jt_cmp (op_eqX hu) k_eq (je_var 1) je_int (nomark _)) (je_bin op_sub k_sub (je_bin op_pow k_pow je_int je_int) (je_callK c__law_draw (hr.mono (by omega)) tk rfl (ja_cons (je_var 0) (ja_cons je_int ja_nil)))) (je_callK c__law_great (hr.mono (by omega)) tk rfl (ja_cons (je_var 0) (ja_cons (je_bin op_pow k_pow je_int je_int) ja_nil)))))))))))
theorem sc__law_pick : FnScope ["_law_pen_here", "_law_options"] ["_law_pen_here", "_law_options"] (defScope (top 23)) := ⟨rfl, rfl, rfl, by decide +kernel, rfl, by decide +kernel, by decide +kernel⟩
theorem ok__law_pick (F : FnW K "_law_pick" (top 23)) (hm : mg "_law_pick" = some (.ref (He.ga K "_law_pick"))) (c__law_draw : Kn P w K mg base "_law_draw" 1 ["_law_pen_here", "_law_many"] f__law_draw) (g_len : mg "len" = none) : Kn P w K mg base "_law_pick" 2 ["_law_pen_here", "_law_options"] f__law_pick := by
  have sc := sc__law_pick
  refine kn_ok F hm sc (fun _ _ _ _ _ _ us hl => match us, hl with | [_, _], _ => rfl) (k := 1) fun cdv A outer s H E hr tk hp hu hu1 => ?_
  exact (jss_one (js_ret (je_ixV 1 (je_callK c__law_draw (hr.mono (by omega)) tk rfl (ja_cons (je_var 0) (ja_cons (je_b1 call_len k_len rfl g_len (by kernel_rfl) (jb_var 1)) ja_nil))))))
theorem sc_Span___invert__ : FnScope ["self"] ["self"] (defScope (clsDef (top 19) 13)) := ⟨rfl, rfl, rfl, by decide +kernel, rfl, by decide +kernel, by decide +kernel⟩
theorem ok_Span___invert__ (F : MtW K "Span" "__invert__" "Span.__invert__" (clsDef (top 19) 13) []) (C_Span : KC K mg "Span") (q_EVERY : GK K "EVERY" (.kt [(.kt [(.int 0), .non])])) (n_EVERY : mg "EVERY" = some (.ref (He.ga K "EVERY"))) (q_WITHOUT : GK K "WITHOUT" (.kt [(.bl false), (.bl false), (.bl true), (.bl false)])) (n_WITHOUT : mg "WITHOUT" = some (.ref (He.ga K "WITHOUT"))) (c_combined : Kn P w K mg base "combined" 2 ["one", "two", "keep"] f_combined) (c_Span___init__ : KnM P w K mg base "Span" "__init__" 3 ["self", "stretches"] f_Span___init__) (na_Span_stretches : NoAttr K (He.ga K "Span") "stretches") : KnM P w K mg base "Span" "__invert__" 5 ["self"] f_Span___invert__ := by
  have sc := sc_Span___invert__
  refine knM_ok F sc (fun fd F => F.bindsN fun _ _ _ _ _ _ us hl => match us, hl with | [_], _ => rfl) (k := 4) fun cdv A outer s H E hr tk hp hu hu1 => ?_
  exact (jss_one (js_ret (je_makeK C_Span c_Span___init__ (hr.mono (by omega)) tk rfl (ja_cons (je_callK c_combined (hr.mono (by omega)) tk rfl (ja_cons (je_gk q_EVERY rfl n_EVERY) (ja_cons (je_fld C_Span.cl na_Span_stretches (je_var 0)) (ja_cons (je_gk q_WITHOUT rfl n_WITHOUT) ja_nil)))) ja_nil))))
theorem sc_Span___sub__ : FnScope ["self", "other"] ["self", "other"] (defScope (clsDef (top 19) 11)) := ⟨rfl, rfl, rfl, by decide +kernel, rfl, by decide +kernel, by decide +kernel⟩
theorem ok_Span___sub__ (F : MtW K "Span" "__sub__" "Span.__sub__" (clsDef (top 19) 11) []) (C_Span : KC K mg "Span") (q_WITHOUT : GK K "WITHOUT" (.kt [(.bl false), (.bl false), (.bl true), (.bl false)])) (n_WITHOUT : mg "WITHOUT" = some (.ref (He.ga K "WITHOUT"))) (c_combined : Kn P w K mg base "combined" 2 ["one", "two", "keep"] f_combined) (c_Span___init__ : KnM P w K mg base "Span" "__init__" 3 ["self", "stretches"] f_Span___init__) (g_isinstance : mg "isinstance" = none) (na_Span_stretches : NoAttr K (He.ga K "Span") "stretches") : KnM P w K mg base "Span" "__sub__" 5 ["self", "other"] f_Span___sub__ := by
  have sc := sc_Span___sub__
  refine knM_ok F sc (fun fd F => F.bindsN fun _ _ _ _ _ _ us hl => match us, hl with | [_, _], _ => rfl) (k := 4) fun cdv A outer s H E hr tk hp hu hu1 => ?_
  exact (jss_cons (js_if (jt_not (jt_truth (je_isC C_Span.is rfl g_isinstance rfl C_Span.mg (jb_var 1)))) (jss_one js_stk) jss_nil)
  (jss_one (js_ret (je_makeK C_Span c_Span___init__ (hr.mono (by omega)) tk rfl (ja_cons (je_callK c_combined (hr.mono (by omega)) tk rfl (ja_cons (je_fld C_Span.cl na_Span_stretches (je_var 0)) (ja_cons (je_fld C_Span.cl na_Span_stretches (je_var 1)) (ja_cons (je_gk q_WITHOUT rfl n_WITHOUT) ja_nil)))) ja_nil)))))
theorem sc_Span___xor__ : FnScope ["self", "other"] ["self", "other"] (defScope (clsDef (top 19) 12)) := ⟨rfl, rfl, rfl, by decide +kernel, rfl, by decide +kernel, by decide +kernel⟩
theorem ok_Span___xor__ (F : MtW K "Span" "__xor__" "Span.__xor__" (clsDef (top 19) 12) []) (C_Span : KC K mg "Span") (q_EITHER : GK K "EITHER" (.kt [(.bl false), (.bl true), (.bl true), (.bl false)])) (n_EITHER : mg "EITHER" = some (.ref (He.ga K "EITHER"))) (c_combined : Kn P w K mg base "combined" 2 ["one", "two", "keep"] f_combined) (c_Span___init__ : KnM P w K mg base "Span" "__init__" 3 ["self", "stretches"] f_Span___init__) (g_isinstance : mg "isinstance" = none) (na_Span_stretches : NoAttr K (He.ga K "Span") "stretches") : KnM P w K mg base "Span" "__xor__" 5 ["self", "other"] f_Span___xor__ := by
  have sc := sc_Span___xor__
  refine knM_ok F sc (fun fd F => F.bindsN fun _ _ _ _ _ _ us hl => match us, hl with | [_, _], _ => rfl) (k := 4) fun cdv A outer s H E hr tk hp hu hu1 => ?_
  exact (jss_cons (js_if (jt_not (jt_truth (je_isC C_Span.is rfl g_isinstance rfl C_Span.mg (jb_var 1)))) (jss_one js_stk) jss_nil)
  (jss_one (js_ret (je_makeK C_Span c_Span___init__ (hr.mono (by omega)) tk rfl (ja_cons (je_callK c_combined (hr.mono (by omega)) tk rfl (ja_cons (je_fld C_Span.cl na_Span_stretches (je_var 0)) (ja_cons (je_fld C_Span.cl na_Span_stretches (je_var 1)) (ja_cons (je_gk q_EITHER rfl n_EITHER) ja_nil)))) ja_nil)))))
theorem sc_Span___or__ : FnScope ["self", "other"] ["self", "other"] (defScope (clsDef (top 19) 9)) := ⟨rfl, rfl, rfl, by decide +kernel, rfl, by decide +kernel, by decide +kernel⟩
theorem ok_Span___or__ (F : MtW K "Span" "__or__" "Span.__or__" (clsDef (top 19) 9) []) (C_Span : KC K mg "Span") (q_UNION : GK K "UNION" (.kt [(.bl false), (.bl true), (.bl true), (.bl true)])) (n_UNION : mg "UNION" = some (.ref (He.ga K "UNION"))) (c_combined : Kn P w K mg base "combined" 2 ["one", "two", "keep"] f_combined) (c_Span___init__ : KnM P w K mg base "Span" "__init__" 3 ["self", "stretches"] f_Span___init__) (g_isinstance : mg "isinstance" = none) (na_Span_stretches : NoAttr K (He.ga K "Span") "stretches") : KnM P w K mg base "Span" "__or__" 5 ["self", "other"] f_Span___or__ := by
  have sc := sc_Span___or__
  refine knM_ok F sc (fun fd F => F.bindsN fun _ _ _ _ _ _ us hl => match us, hl with | [_, _], _ => rfl) (k := 4) fun cdv A outer s H E hr tk hp hu hu1 => ?_
  exact (jss_cons (js_if (jt_not (jt_truth (je_isC C_Span.is rfl g_isinstance rfl C_Span.mg (jb_var 1)))) (jss_one js_stk) jss_nil)
  (jss_one (js_ret (je_makeK C_Span c_Span___init__ (hr.mono (by omega)) tk rfl (ja_cons (je_callK c_combined (hr.mono (by omega)) tk rfl (ja_cons (je_fld C_Span.cl na_Span_stretches (je_var 0)) (ja_cons (je_fld C_Span.cl na_Span_stretches (je_var 1)) (ja_cons (je_gk q_UNION rfl n_UNION) ja_nil)))) ja_nil)))))
theorem sc_Span___and__ : FnScope ["self", "other"] ["self", "other"] (defScope (clsDef (top 19) 10)) := ⟨rfl, rfl, rfl, by decide +kernel, rfl, by decide +kernel, by decide +kernel⟩
theorem ok_Span___and__ (F : MtW K "Span" "__and__" "Span.__and__" (clsDef (top 19) 10) []) (C_Span : KC K mg "Span") (q_MEET : GK K "MEET" (.kt [(.bl false), (.bl false), (.bl false), (.bl true)])) (n_MEET : mg "MEET" = some (.ref (He.ga K "MEET"))) (c_combined : Kn P w K mg base "combined" 2 ["one", "two", "keep"] f_combined) (c_Span___init__ : KnM P w K mg base "Span" "__init__" 3 ["self", "stretches"] f_Span___init__) (g_isinstance : mg "isinstance" = none) (na_Span_stretches : NoAttr K (He.ga K "Span") "stretches") : KnM P w K mg base "Span" "__and__" 5 ["self", "other"] f_Span___and__ := by
  have sc := sc_Span___and__
  refine knM_ok F sc (fun fd F => F.bindsN fun _ _ _ _ _ _ us hl => match us, hl with | [_, _], _ => rfl) (k := 4) fun cdv A outer s H E hr tk hp hu hu1 => ?_
  exact (jss_cons (js_if (jt_not (jt_truth (je_isC C_Span.is rfl g_isinstance rfl C_Span.mg (jb_var 1)))) (jss_one js_stk) jss_nil)
  (jss_one (js_ret (je_makeK C_Span c_Span___init__ (hr.mono (by omega)) tk rfl (ja_cons (je_callK c_combined (hr.mono (by omega)) tk rfl (ja_cons (je_fld C_Span.cl na_Span_stretches (je_var 0)) (ja_cons (je_fld C_Span.cl na_Span_stretches (je_var 1)) (ja_cons (je_gk q_MEET rfl n_MEET) ja_nil)))) ja_nil)))))
theorem sc__law_stretch : FnScope ["_law_pen_here", "_law_base_here", "_law_low"] ["_law_pen_here", "_law_base_here"] (defScope (top 35)) := ⟨rfl, rfl, rfl, by decide +kernel, rfl, by decide +kernel, by decide +kernel⟩
theorem ok__law_stretch (F : FnW K "_law_stretch" (top 35)) (hm : mg "_law_stretch" = some (.ref (He.ga K "_law_stretch"))) (c__law_draw : Kn P w K mg base "_law_draw" 1 ["_law_pen_here", "_law_many"] f__law_draw) : Kn P w K mg base "_law_stretch" 2 ["_law_pen_here", "_law_base_here"] f__law_stretch := by
  have sc := sc__law_stretch
  refine kn_ok F hm sc (fun _ _ _ _ _ _ us hl => match us, hl with | [_, _], _ => rfl) (k := 1) fun cdv A outer s H E hr tk hp hu hu1 => ?_
  exact (jss_cons (js_set sc.nd (i := 2) rfl (by first | exact Or.inl rfl | exact Or.inr rfl) (je_bin op_addX k_addX (je_var 1) (je_callK c__law_draw (hr.mono (by omega)) tk rfl (ja_cons (je_var 0) (ja_cons je_int ja_nil)))))
  (jss_one (js_ret (je_tup (ja_cons (je_var 2) (ja_cons (je_if (jt_cmp (op_eqX hu) k_eq (je_callK c__law_draw (hr.mono (by omega)) tk rfl (ja_cons (je_var 0) (ja_cons je_int ja_nil))) je_int (nomark _)) je_non (je_bin op_addX k_addX (je_var 2) (je_callK c__law_draw (hr.mono (by omega)) tk rfl (ja_cons (je_var 0) (ja_cons je_int ja_nil))))) ja_nil))))))
theorem sc__law_stretches : FnScope ["_law_pen_here", "_law_base_here", "_law_found", "_law_k"] ["_law_pen_here", "_law_base_here"] (defScope (top 36)) := ⟨rfl, rfl, rfl, by decide +kernel, rfl, by decide +kernel, by decide +kernel⟩
theorem ok__law_stretches (F : FnW K "_law_stretches" (top 36)) (hm : mg "_law_stretches" = some (.ref (He.ga K "_law_stretches"))) (c__law_draw : Kn P w K mg base "_law_draw" 1 ["_law_pen_here", "_law_many"] f__law_draw) (c__law_stretch : Kn P w K mg base "_law_stretch" 2 ["_law_pen_here", "_law_base_here"] f__law_stretch) (g_range : mg "range" = none) : Kn P w K mg base "_law_stretches" 3 ["_law_pen_here", "_law_base_here"] f__law_stretches := by
  have sc := sc__law_stretches
  refine kn_ok F hm sc (fun _ _ _ _ _ _ us hl => match us, hl with | [_, _], _ => rfl) (k := 2) fun cdv A outer s H E hr tk hp hu hu1 => ?_
  exact (jss_cons (js_lc (own := [("_law_k", 3)]) rfl sc.nd (i := 2) rfl rfl (sw_true rfl rfl rfl (by kernel_rfl)) (ji_range1 rfl g_range (ja_cons (je_callK c__law_draw (hr.mono (by omega)) tk rfl (ja_cons (je_var 0) (ja_cons je_int ja_nil))) ja_nil)) (blk_ok (by kernel_rfl)) (fun s2 H2 C2 cl2 fp2 => (jg_name sc.nd rfl (by first | exact Or.inl rfl | exact Or.inr rfl))) (fun s2 H2 C2 cl2 fp2 => jts_nil) (fun s2 H2 C2 cl2 fp2 => (je_callK c__law_stretch (hr.mono (by omega)) tkF rfl (ja_cons (je_var 0) (ja_cons (je_var 1) ja_nil)))))
  (jss_one (js_ret (je_fz (jf_bin op_cat k_laddF (je_var 2) (je_fz (jf_bin op_rep k_lrepF (je_fz (jf_lst (ja_cons (je_tup (ja_cons je_int (ja_cons (je_callK c__law_draw (hr.mono (by omega)) tk rfl (ja_cons (je_var 0) (ja_cons je_int ja_nil))) ja_nil))) ja_nil))) (je_callK c__law_draw (hr.mono (by omega)) tk rfl (ja_cons (je_var 0) (ja_cons je_int ja_nil))))))))))
theorem sc__law_base : FnScope ["_law_pen_here"] ["_law_pen_here"] (defScope (top 27)) := ⟨rfl, rfl, rfl, by decide +kernel, rfl, by decide +kernel, by decide +kernel⟩
theorem ok__law_base (F : FnW K "_law_base" (top 27)) (hm : mg "_law_base" = some (.ref (He.ga K "_law_base"))) (c__law_draw : Kn P w K mg base "_law_draw" 1 ["_law_pen_here", "_law_many"] f__law_draw) (c__law_great : Kn P w K mg base "_law_great" 2 ["_law_pen_here", "_law_many"] f__law_great) : Kn P w K mg base "_law_base" 3 ["_law_pen_here"] f__law_base := by
  have sc := sc__law_base
  refine kn_ok F hm sc (fun _ _ _ _ _ _ us hl => match us, hl with | [_], _ => rfl) (k := 2) fun cdv A outer s H E hr tk hp hu hu1 => ?_
  exact (jss_one (js_ret (je_if (jt_cmp (op_eqX hu) k_eq (je_callK c__law_draw (hr.mono (by omega)) tk rfl (ja_cons (je_var 0) (ja_cons je_int ja_nil))) je_int (nomark _)) (je_callK c__law_great (hr.mono (by omega)) tk rfl (ja_cons (je_var 0) (ja_cons (je_bin op_pow k_pow je_int je_int) ja_nil))) (je_callK c__law_draw (hr.mono (by omega)) tk rfl (ja_cons (je_var 0) (ja_cons je_int ja_nil))))))
theorem sc__law_pen : FnScope ["_law_script"] ["_law_script"] (defScope (top 21)) := ⟨rfl, rfl, rfl, by decide +kernel, rfl, by decide +kernel, by decide +kernel⟩
theorem ok__law_pen (F : FnW K "_law_pen" (top 21)) (hm : mg "_law_pen" = some (.ref (He.ga K "_law_pen"))) (g_list : mg "list" = none) : Kn P w K mg base "_law_pen" 1 ["_law_script"] f__law_pen := by
  have sc := sc__law_pen
  refine kn_ok F hm sc (fun _ _ _ _ _ _ us hl => match us, hl with | [_], _ => rfl) (k := 0) fun cdv A outer s H E hr tk hp hu hu1 => ?_
  exact (jss_one (js_ret (je_dict (jp_cons (ke := .inr "cells") pe_str (je_fz (jf_t1 call_list_of k_list rfl g_list (by kernel_rfl) (jb_of (je_slN 0 jo_none (jo_some je_int))))) (jp_cons (ke := .inr "begun") pe_str je_int (jp_cons (ke := .inr "rest") pe_str je_int jp_nil))) (by decide))))
theorem sc_law : FnScope ["_law_script", "_law_pen_here", "_law_again", "_law_base_here", "_law_rows", "_law_others", "_law_way", "_law_first", "_law_second", "_law_one", "_law_two", "_law_points_here", "_law_marks", "_law_dues", "_law_by", "_law_part", "_law_backward", "_law_n", "_law_a", "_law_b", "_law_span", "_law_inside"] ["_law_script"] (defScope (top 39)) := ⟨rfl, rfl, rfl, by decide +kernel, rfl, by decide +kernel, by decide +kernel⟩
theorem ok_law (F : FnW K "law" (top 39)) (hm : mg "law" = some (.ref (He.ga K "law"))) (C_Span : KC K mg "Span") (o_Span___eq__ : Own K (He.ga K "Span") (He.ma K (He.ga K "Span") "__eq__") "__eq__") (o_Span___lshift__ : Own K (He.ga K "Span") (He.ma K (He.ga K "Span") "__lshift__") "__lshift__") (nr_Span___rlshift__ : NoR K "Span" "__rlshift__") (o_Span___rshift__ : Own K (He.ga K "Span") (He.ma K (He.ga K "Span") "__rshift__") "__rshift__") (nr_Span___rrshift__ : NoR K "Span" "__rrshift__") (o_Span___invert__ : Own K (He.ga K "Span") (He.ma K (He.ga K "Span") "__invert__") "__invert__") (o_Span___sub__ : Own K (He.ga K "Span") (He.ma K (He.ga K "Span") "__sub__") "__sub__") (o_Span___xor__ : Own K (He.ga K "Span") (He.ma K (He.ga K "Span") "__xor__") "__xor__") (o_Span___or__ : Own K (He.ga K "Span") (He.ma K (He.ga K "Span") "__or__") "__or__") (o_Span___and__ : Own K (He.ga K "Span") (He.ma K (He.ga K "Span") "__and__") "__and__") (c_Span___eq__ : KnM P w K mg base "Span" "__eq__" 1 ["self", "other"] f_Span___eq__) (c__law_span_is : Kn P w K mg base "_law_span_is" 2 ["_law_span", "_law_stretches_here"] f__law_span_is) (c__law_orders : Kn P w K mg base "_law_orders" 4 ["_law_one", "_law_other", "_law_due", "_law_backward"] f__law_orders) (c_Span___lshift__ : KnM P w K mg base "Span" "__lshift__" 5 ["self", "k"] f_Span___lshift__) (c__law_moved_by : Kn P w K mg base "_law_moved_by" 4 ["_law_stretches_here", "_law_by"] f__law_moved_by) (c_Span___rshift__ : KnM P w K mg base "Span" "__rshift__" 5 ["self", "k"] f_Span___rshift__) (c__law_integer : Kn P w K mg base "_law_integer" 3 ["_law_pen_here"] f__law_integer) (c__law_draw : Kn P w K mg base "_law_draw" 1 ["_law_pen_here", "_law_many"] f__law_draw) (c__law_pick : Kn P w K mg base "_law_pick" 2 ["_law_pen_here", "_law_options"] f__law_pick) (c__law_spread : Kn P w K mg base "_law_spread" 2 ["_law_points_here", "_law_inside"] f__law_spread) (c_Span___invert__ : KnM P w K mg base "Span" "__invert__" 5 ["self"] f_Span___invert__) (c_Span___sub__ : KnM P w K mg base "Span" "__sub__" 5 ["self", "other"] f_Span___sub__) (c_Span___xor__ : KnM P w K mg base "Span" "__xor__" 5 ["self", "other"] f_Span___xor__) (c_Span___or__ : KnM P w K mg base "Span" "__or__" 5 ["self", "other"] f_Span___or__) (c_Span___and__ : KnM P w K mg base "Span" "__and__" 5 ["self", "other"] f_Span___and__) (c__law_within : Kn P w K mg base "_law_within" 1 ["_law_stretches_here", "_law_n"] f__law_within) (c__law_points : Kn P w K mg base "_law_points" 1 ["_law_stretches_here"] f__law_points) (c_Span___init__ : KnM P w K mg base "Span" "__init__" 3 ["self", "stretches"] f_Span___init__) (c__law_united : Kn P w K mg base "_law_united" 3 ["_law_stretches_here"] f__law_united) (c__law_stretches : Kn P w K mg base "_law_stretches" 3 ["_law_pen_here", "_law_base_here"] f__law_stretches) (c__law_base : Kn P w K mg base "_law_base" 3 ["_law_pen_here"] f__law_base) (c__law_pen : Kn P w K mg base "_law_pen" 1 ["_law_script"] f__law_pen) (g_len : mg "len" = none) (g_min : mg "min" = none) (g_range : mg "range" = none) (g_all : mg "all" = none) : Kn P w K mg base "law" 6 ["_law_script"] f_law := by
  have sc := sc_law
  refine kn_ok F hm sc (fun _ _ _ _ _ _ us hl => match us, hl with | [_], _ => rfl) (k := 5) fun cdv A outer s H E hr tk hp hu hu1 => ?_
  exact (jss_cons (js_set sc.nd (i := 1) rfl (by first | exact Or.inl rfl | exact Or.inr rfl) (je_callK c__law_pen (hr.mono (by omega)) tk rfl (ja_cons (je_var 0) ja_nil)))
  (jss_cons (js_for hp rfl (ji_range1 rfl g_range (ja_cons (je_bin op_addX k_addX je_int (je_min2 rfl rfl g_min (ja_cons je_int (ja_cons (je_b1 call_len k_len rfl g_len (by kernel_rfl) (jb_var 0)) ja_nil)))) ja_nil)) (jg_name sc.nd rfl (by first | exact Or.inl rfl | exact Or.inr rfl)) (jss_cons (js_set sc.nd (i := 3) rfl (by first | exact Or.inl rfl | exact Or.inr rfl) (je_callK c__law_base (hr.mono (by omega)) tk rfl (ja_cons (je_var 1) ja_nil)))
  (jss_cons (js_par rfl sc.nd (i := 4) (j := 5) rfl rfl (by decide) rfl rfl (ja_cons (je_callK c__law_stretches (hr.mono (by omega)) tk rfl (ja_cons (je_var 1) (ja_cons (je_var 3) ja_nil))) (ja_cons (je_callK c__law_stretches (hr.mono (by omega)) tk rfl (ja_cons (je_var 1) (ja_cons (je_var 3) ja_nil))) ja_nil)) rfl)
  (jss_cons (js_set sc.nd (i := 6) rfl (by first | exact Or.inl rfl | exact Or.inr rfl) (je_callK c__law_draw (hr.mono (by omega)) tk rfl (ja_cons (je_var 1) (ja_cons je_int ja_nil))))
  (jss_cons (js_if (jt_cmp (op_eqX hu) k_eq (je_var 6) je_int (nomark _)) (jss_one (js_set sc.nd (i := 5) rfl (by first | exact Or.inl rfl | exact Or.inr rfl) (je_bin op_addX k_addX (je_var 5) (je_var 4)))) jss_nil)
  (jss_cons (js_if (jt_cmp (op_eqX hu) k_eq (je_var 6) je_int (nomark _)) (jss_one (js_set sc.nd (i := 5) rfl (by first | exact Or.inl rfl | exact Or.inr rfl) (je_slN 4 jo_none (jo_some (je_callK c__law_draw (hr.mono (by omega)) tk rfl (ja_cons (je_var 1) (ja_cons (je_bin op_addX k_addX (je_b1 call_len k_len rfl g_len (by kernel_rfl) (jb_var 4)) je_int) ja_nil))))))) jss_nil)
  (jss_cons (js_asg (je_tup (ja_cons (je_callK c__law_united (hr.mono (by omega)) tk rfl (ja_cons (je_var 4) ja_nil)) (ja_cons (je_callK c__law_united (hr.mono (by omega)) tk rfl (ja_cons (je_var 5) ja_nil)) ja_nil))) (jg_tl rfl (jgs_cons (jg_name sc.nd rfl (by first | exact Or.inl rfl | exact Or.inr rfl)) (jgs_cons (jg_name sc.nd rfl (by first | exact Or.inl rfl | exact Or.inr rfl)) jgs_nil))))
  (jss_cons (js_par rfl sc.nd (i := 9) (j := 10) rfl rfl (by decide) rfl rfl (ja_cons (je_makeK C_Span c_Span___init__ (hr.mono (by omega)) tk rfl (ja_cons (je_var 4) ja_nil)) (ja_cons (je_makeK C_Span c_Span___init__ (hr.mono (by omega)) tk rfl (ja_cons (je_var 5) ja_nil)) ja_nil)) rfl)
  (jss_cons (js_set sc.nd (i := 11) rfl (by first | exact Or.inl rfl | exact Or.inr rfl) (je_callK c__law_points (hr.mono (by omega)) tk rfl (ja_cons (je_bin op_addX k_addX (je_var 7) (je_var 8)) ja_nil)))
  (jss_cons (js_lc (own := [("_law_n", 17)]) rfl sc.nd (i := 12) rfl rfl (sw_true rfl rfl rfl (by kernel_rfl)) (ji_seq (je_var 11)) (blk_ok (by kernel_rfl)) (fun s2 H2 C2 cl2 fp2 => (jg_name sc.nd rfl (by first | exact Or.inl rfl | exact Or.inr rfl))) (fun s2 H2 C2 cl2 fp2 => jts_nil) (fun s2 H2 C2 cl2 fp2 => (je_tup (ja_cons (je_callK c__law_within (hr.mono (by omega)) tkF rfl (ja_cons (je_var 7) (ja_cons (je_var 17) ja_nil))) (ja_cons (je_callK c__law_within (hr.mono (by omega)) tkF rfl (ja_cons (je_var 8) (ja_cons (je_var 17) ja_nil))) ja_nil)))))
  (jss_cons (js_own sc.nd (i := 13) rfl (by first | exact Or.inl rfl | exact Or.inr rfl) (jf_lst (ja_cons (je_tup (ja_cons (je_op2K o_Span___or__ (by decide) c_Span___or__ (hr.mono (by omega)) tk (je_var 9) (je_var 10)) (ja_cons (je_fz (jf_lc (own := [("_law_a", 18), ("_law_b", 19)]) rfl sc.nd (ji_seq (je_var 12)) (blk_ok (by kernel_rfl)) (fun s2 H2 C2 cl2 fp2 => (jg_tup rfl (jgs_cons (jg_name sc.nd rfl (by first | exact Or.inl rfl | exact Or.inr rfl)) (jgs_cons (jg_name sc.nd rfl (by first | exact Or.inl rfl | exact Or.inr rfl)) jgs_nil)))) (fun s2 H2 C2 cl2 fp2 => jts_nil) (fun s2 H2 C2 cl2 fp2 => (je_or (je_var 18) (je_one (je_var 19)))))) ja_nil))) (ja_cons (je_tup (ja_cons (je_op2K o_Span___and__ (by decide) c_Span___and__ (hr.mono (by omega)) tk (je_var 9) (je_var 10)) (ja_cons (je_fz (jf_lc (own := [("_law_a", 18), ("_law_b", 19)]) rfl sc.nd (ji_seq (je_var 12)) (blk_ok (by kernel_rfl)) (fun s2 H2 C2 cl2 fp2 => (jg_tup rfl (jgs_cons (jg_name sc.nd rfl (by first | exact Or.inl rfl | exact Or.inr rfl)) (jgs_cons (jg_name sc.nd rfl (by first | exact Or.inl rfl | exact Or.inr rfl)) jgs_nil)))) (fun s2 H2 C2 cl2 fp2 => jts_nil) (fun s2 H2 C2 cl2 fp2 => (je_and (je_var 18) (je_one (je_var 19)))))) ja_nil))) ja_nil))))
  (jss_cons (js_own sc.nd (i := 13) rfl (by first | exact Or.inl rfl | exact Or.inr rfl) (jf_bin op_cat k_laddF (je_var 13) (je_fz (jf_lst (ja_cons (je_tup (ja_cons (je_op2K o_Span___sub__ (by decide) c_Span___sub__ (hr.mono (by omega)) tk (je_var 9) (je_var 10)) (ja_cons (je_fz (jf_lc (own := [("_law_a", 18), ("_law_b", 19)]) rfl sc.nd (ji_seq (je_var 12)) (blk_ok (by kernel_rfl)) (fun s2 H2 C2 cl2 fp2 => (jg_tup rfl (jgs_cons (jg_name sc.nd rfl (by first | exact Or.inl rfl | exact Or.inr rfl)) (jgs_cons (jg_name sc.nd rfl (by first | exact Or.inl rfl | exact Or.inr rfl)) jgs_nil)))) (fun s2 H2 C2 cl2 fp2 => jts_nil) (fun s2 H2 C2 cl2 fp2 => (je_and (je_var 18) (je_one (je_not (je_var 19))))))) ja_nil))) (ja_cons (je_tup (ja_cons (je_op2K o_Span___xor__ (by decide) c_Span___xor__ (hr.mono (by omega)) tk (je_var 9) (je_var 10)) (ja_cons (je_fz (jf_lc (own := [("_law_a", 18), ("_law_b", 19)]) rfl sc.nd (ji_seq (je_var 12)) (blk_ok (by kernel_rfl)) (fun s2 H2 C2 cl2 fp2 => (jg_tup rfl (jgs_cons (jg_name sc.nd rfl (by first | exact Or.inl rfl | exact Or.inr rfl)) (jgs_cons (jg_name sc.nd rfl (by first | exact Or.inl rfl | exact Or.inr rfl)) jgs_nil)))) (fun s2 H2 C2 cl2 fp2 => jts_nil) (fun s2 H2 C2 cl2 fp2 => (je_cmp (op_neX hu) k_ne (je_var 18) (je_var 19) (nomark _))))) ja_nil))) ja_nil))))))
  (jss_cons (js_own sc.nd (i := 13) rfl (by first | exact Or.inl rfl | exact Or.inr rfl) (jf_bin op_cat k_laddF (je_var 13) (je_fz (jf_lst (ja_cons (je_tup (ja_cons (je_op1K (.inl ⟨rfl, rfl⟩) o_Span___invert__ c_Span___invert__ (hr.mono (by omega)) tk (je_var 9)) (ja_cons (je_fz (jf_lc (own := [("_law_a", 18), ("_law_b", 19)]) rfl sc.nd (ji_seq (je_var 12)) (blk_ok (by kernel_rfl)) (fun s2 H2 C2 cl2 fp2 => (jg_tup rfl (jgs_cons (jg_name sc.nd rfl (by first | exact Or.inl rfl | exact Or.inr rfl)) (jgs_cons (jg_name sc.nd rfl (by first | exact Or.inl rfl | exact Or.inr rfl)) jgs_nil)))) (fun s2 H2 C2 cl2 fp2 => jts_nil) (fun s2 H2 C2 cl2 fp2 => (je_not (je_var 18))))) ja_nil))) (ja_cons (je_tup (ja_cons (je_op2K o_Span___sub__ (by decide) c_Span___sub__ (hr.mono (by omega)) tk (je_var 10) (je_var 9)) (ja_cons (je_fz (jf_lc (own := [("_law_a", 18), ("_law_b", 19)]) rfl sc.nd (ji_seq (je_var 12)) (blk_ok (by kernel_rfl)) (fun s2 H2 C2 cl2 fp2 => (jg_tup rfl (jgs_cons (jg_name sc.nd rfl (by first | exact Or.inl rfl | exact Or.inr rfl)) (jgs_cons (jg_name sc.nd rfl (by first | exact Or.inl rfl | exact Or.inr rfl)) jgs_nil)))) (fun s2 H2 C2 cl2 fp2 => jts_nil) (fun s2 H2 C2 cl2 fp2 => (je_and (je_var 19) (je_one (je_not (je_var 18))))))) ja_nil))) ja_nil))))))
  (jss_cons (js_if (jt_not (jt_truth (je_b1 (cr_all rfl) k_all rfl g_all (by kernel_rfl) (jb_new (jf_lc (own := [("_law_span", 20), ("_law_inside", 21)]) rfl sc.nd (ji_seq (je_var 13)) (blk_ok (by kernel_rfl)) (fun s2 H2 C2 cl2 fp2 => (jg_tup rfl (jgs_cons (jg_name sc.nd rfl (by first | exact Or.inl rfl | exact Or.inr rfl)) (jgs_cons (jg_name sc.nd rfl (by first | exact Or.inl rfl | exact Or.inr rfl)) jgs_nil)))) (fun s2 H2 C2 cl2 fp2 => jts_nil) (fun s2 H2 C2 cl2 fp2 => (je_callK c__law_span_is (hr.mono (by omega)) tkF rfl (ja_cons (je_var 20) (ja_cons (je_callK c__law_spread (hr.mono (by omega)) tkF rfl (ja_cons (je_var 11) (ja_cons (je_var 21) ja_nil))) ja_nil))))))))) (jss_one (js_ret je_bl)) jss_nil)
  (jss_cons (js_set sc.nd (i := 14) rfl (by first | exact Or.inl rfl | exact Or.inr rfl) (je_callK c__law_pick (hr.mono (by omega)) tk rfl (ja_cons (je_var 1) (ja_cons (je_fz (jf_lst (ja_cons (je_callK c__law_integer (hr.mono (by omega)) tk rfl (ja_cons (je_var 1) ja_nil)) (ja_cons (je_neg (je_var 3)) (ja_cons (je_bin op_sub k_sub (je_bin op_sub k_sub je_int (je_var 3)) (je_callK c__law_draw (hr.mono (by omega)) tk rfl (ja_cons (je_var 1) (ja_cons je_int ja_nil)))) (ja_cons (je_callK c__law_draw (hr.mono (by omega)) tk rfl (ja_cons (je_var 1) (ja_cons je_int ja_nil))) ja_nil)))))) ja_nil))))
  (jss_cons (js_if (jt_not (jt_truth (je_callK c__law_span_is (hr.mono (by omega)) tk rfl (ja_cons (je_opI o_Span___rshift__ (by decide) io_rshift nr_Span___rrshift__ (by decide) c_Span___rshift__ (hr.mono (by omega)) tk (je_var 9) (je_var 14)) (ja_cons (je_callK c__law_moved_by (hr.mono (by omega)) tk rfl (ja_cons (je_var 7) (ja_cons (je_var 14) ja_nil))) ja_nil))))) (jss_one (js_ret je_bl)) jss_nil)
  (jss_cons (js_if (jt_not (jt_truth (je_callK c__law_span_is (hr.mono (by omega)) tk rfl (ja_cons (je_opI o_Span___lshift__ (by decide) io_lshift nr_Span___rlshift__ (by decide) c_Span___lshift__ (hr.mono (by omega)) tk (je_var 9) (je_var 14)) (ja_cons (je_callK c__law_moved_by (hr.mono (by omega)) tk rfl (ja_cons (je_var 7) (ja_cons (je_neg (je_var 14)) ja_nil))) ja_nil))))) (jss_one (js_ret je_bl)) jss_nil)
  (jss_cons (js_par rfl sc.nd (i := 15) (j := 16) rfl rfl (by decide) rfl rfl (ja_cons (je_b1 (cr_all rfl) k_all rfl g_all (by kernel_rfl) (jb_new (jf_lc (own := [("_law_a", 18), ("_law_b", 19)]) rfl sc.nd (ji_seq (je_var 12)) (blk_ok (by kernel_rfl)) (fun s2 H2 C2 cl2 fp2 => (jg_tup rfl (jgs_cons (jg_name sc.nd rfl (by first | exact Or.inl rfl | exact Or.inr rfl)) (jgs_cons (jg_name sc.nd rfl (by first | exact Or.inl rfl | exact Or.inr rfl)) jgs_nil)))) (fun s2 H2 C2 cl2 fp2 => jts_nil) (fun s2 H2 C2 cl2 fp2 => (je_or (je_var 19) (je_one (je_not (je_var 18)))))))) (ja_cons (je_b1 (cr_all rfl) k_all rfl g_all (by kernel_rfl) (jb_new (jf_lc (own := [("_law_a", 18), ("_law_b", 19)]) rfl sc.nd (ji_seq (je_var 12)) (blk_ok (by kernel_rfl)) (fun s2 H2 C2 cl2 fp2 => (jg_tup rfl (jgs_cons (jg_name sc.nd rfl (by first | exact Or.inl rfl | exact Or.inr rfl)) (jgs_cons (jg_name sc.nd rfl (by first | exact Or.inl rfl | exact Or.inr rfl)) jgs_nil)))) (fun s2 H2 C2 cl2 fp2 => jts_nil) (fun s2 H2 C2 cl2 fp2 => (je_or (je_var 18) (je_one (je_not (je_var 19)))))))) ja_nil)) rfl)
  (jss_cons (js_if (JW.jt (jw_or (jt_not (jt_truth (je_callK c__law_orders (hr.mono (by omega)) tk rfl (ja_cons (je_var 9) (ja_cons (je_var 10) (ja_cons (je_var 15) (ja_cons (je_var 16) ja_nil))))))) (jw_or1 (jt_not (jt_truth (je_callK c__law_orders (hr.mono (by omega)) tk rfl (ja_cons (je_var 10) (ja_cons (je_var 9) (ja_cons (je_var 16) (ja_cons (je_var 15) ja_nil)))))))))) (jss_one (js_ret je_bl)) jss_nil)
  (jss_one (js_if (JW.jt (jw_or (jt_not (jt_truth (je_callK c__law_span_is (hr.mono (by omega)) tk rfl (ja_cons (je_var 9) (ja_cons (je_var 7) ja_nil))))) (jw_or (jt_not (jt_truth (je_callK c__law_span_is (hr.mono (by omega)) tk rfl (ja_cons (je_var 10) (ja_cons (je_var 8) ja_nil))))) (jw_or (jt_cmpK (fun _ _ => rfl) C_Span o_Span___eq__ (by decide) c_Span___eq__ (hr.mono (by omega)) (je_var 9) je_int (nomark _)) (jw_or1 (jt_cmpK (fun _ _ => rfl) C_Span o_Span___eq__ (by decide) c_Span___eq__ (hr.mono (by omega)) (je_var 10) (je_var 8) (nomark _))))))) (jss_one (js_ret je_bl)) jss_nil)))))))))))))))))))))
  (jss_one (js_ret je_bl))))
end
end
end K20

namespace K20
open DL
theorem m_law_eq : m_law = SP.lawM20 := rfl
theorem law_pure : ∀ ns : List Int, ns.length ≤ 63 → ∃ st, f_law [.kl (ns.map .int)] [] = .ok (.bl true) st := fun ns h => by
  rw [f_law, m_law_eq]
  exact SP.lawM20_ok ns h
end K20

namespace K20
open PySem PySem.Spec PyProof.Rows L2 DL
noncomputable section
def dd (x : Str) (i : Nat) : He.DefD := ⟨(x, none), x, x, defArgs (top i), defBody (top i), defScope (top i), [], []⟩
def dm (c m q : Str) (i j : Nat) (ds : List He.Dv) : He.DefD := ⟨(c, some m), m, q, defArgs (clsDef (top i) j), defBody (clsDef (top i) j), defScope (clsDef (top i) j), ds, []⟩
def fn : List He.DefD := [dm "Span" "__eq__" "Span.__eq__" 19 4 [], dd "_law_whole" 24, dd "_law_span_is" 34, dd "paired" 14, dd "turning_points" 13, dd "combined" 15, dm "Span" "__le__" "Span.__le__" 19 5 [], dm "Span" "__lt__" "Span.__lt__" 19 6 [], dm "Span" "__ge__" "Span.__ge__" 19 7 [], dm "Span" "__gt__" "Span.__gt__" 19 8 [], dd "_law_orders" 37, dd "span_moved" 16, dd "is_whole" 5, dd "is_stretch" 12, dm "Span" "__init__" "Span.__init__" 19 0 [.adr (He.dflAt ("Span", some "__init__") 0)], dm "Span" "__lshift__" "Span.__lshift__" 19 18 [], dd "_law_within" 30, dd "_law_highs" 29, dd "_law_joined" 28, dd "_law_spread" 32, dd "_law_points" 31, dd "_law_united" 33, dd "_law_moved_by" 38, dm "Span" "__rshift__" "Span.__rshift__" 19 17 [], dd "_law_draw" 22, dd "_law_great" 25, dd "_law_integer" 26, dd "_law_pick" 23, dm "Span" "__invert__" "Span.__invert__" 19 13 [], dm "Span" "__sub__" "Span.__sub__" 19 11 [], dm "Span" "__xor__" "Span.__xor__" 19 12 [], dm "Span" "__or__" "Span.__or__" 19 9 [], dm "Span" "__and__" "Span.__and__" 19 10 [], dd "_law_stretch" 35, dd "_law_stretches" 36, dd "_law_base" 27, dd "_law_pen" 21, dd "law" 39]
def fa : List He.Fa := [.glo "_law_whole", .glo "_law_span_is", .glo "paired", .glo "turning_points", .glo "combined", .glo "_law_orders", .glo "span_moved", .glo "is_whole", .glo "is_stretch", .glo "_law_within", .glo "_law_highs", .glo "_law_joined", .glo "_law_spread", .glo "_law_points", .glo "_law_united", .glo "_law_moved_by", .glo "_law_draw", .glo "_law_great", .glo "_law_integer", .glo "_law_pick", .glo "_law_stretch", .glo "_law_stretches", .glo "_law_base", .glo "_law_pen", .glo "law", .glo "BadValue", .glo "Span", .glo "WITHOUT", .glo "UNION", .glo "EVERY", .glo "EITHER", .glo "MEET", .free "isinstance", .free "bool", .free "int", .free "all", .free "tuple", .free "len", .free "range", .free "list", .free "any", .free "zip", .free "sorted", .free "set", .free "max", .free "abs", .free "min", .free "super", .cls "Span", .mkr "Span", .noat "Span" "stretches"]
def fb : List (PySem.W.Frag → Bool) := [isCB "Span", ownB "Span" "__le__", ownB "Span" "__lt__", ownB "Span" "__ge__", ownB "Span" "__gt__", ownB "Span" "__eq__", noNeB "Span", ownB "Span" "__lshift__", noRB "Span" "__rlshift__", ownB "Span" "__rshift__", noRB "Span" "__rrshift__", ownB "Span" "__invert__", ownB "Span" "__sub__", ownB "Span" "__xor__", ownB "Span" "__or__", ownB "Span" "__and__", gkB "WITHOUT" (.kt [(.bl false), (.bl false), (.bl true), (.bl false)]), gkB "UNION" (.kt [(.bl false), (.bl true), (.bl true), (.bl true)]), gkB "EVERY" (.kt [(.kt [(.int 0), .non])]), gkB "EITHER" (.kt [(.bl false), (.bl true), (.bl true), (.bl false)]), gkB "MEET" (.kt [(.bl false), (.bl false), (.bl false), (.bl true)])]
def xs : List HK.XD := [⟨"BadValue", "shown", "BadValue.__init__", "no such value may stand here", ⟨⟨9, 17, 9, 21⟩, ⟨9, 23, 9, 28⟩, ⟨10, 8, 10, 13⟩, ⟨10, 8, 10, 15⟩, ⟨10, 8, 10, 24⟩, ⟨10, 25, 10, 55⟩, ⟨10, 8, 10, 56⟩, ⟨11, 8, 11, 12⟩, ⟨11, 8, 11, 18⟩, ⟨11, 21, 11, 26⟩, ⟨11, 8, 11, 26⟩⟩, ⟨10, 8, 10, 56⟩⟩]
abbrev R : PySem.W.OpenRow := PySem.W.OpenLaw.row PySem.Challenge.rw_everyname_k20_whole_operators_of_spans
abbrev hk : PySem.W.Hook := HK.hookX 5 (PySem.Challenge.rw_everyname_k20_whole_operators_of_spans).prog.main.file fa fb fn xs
def ob (s : PySem.W.SharedT) : HK.AlX := HK.obsXG 5 (PySem.Challenge.rw_everyname_k20_whole_operators_of_spans).prog.main.file fa fb fn xs (HandSHeadRun.getT s)
theorem ob_eq (s : PySem.W.SharedT) : ob s = hk.obs s.abs := HK.obsXG_eq (HandSHeadRun.getT_eq s)
def names : List PySem.Str := (["_wall", "EverynameError", "BadValue", "is_whole", "UNION", "MEET", "WITHOUT", "EITHER", "EVERY", "is_stretch", "turning_points", "paired", "combined", "span_moved", "lies_in", "stretch_text", "Span", "_law_pen", "_law_draw", "_law_pick"] : List PySem.Str) ++ (["_law_whole", "_law_great", "_law_integer", "_law_base", "_law_joined", "_law_highs", "_law_within", "_law_points", "_law_spread", "_law_united", "_law_span_is", "_law_stretch", "_law_stretches", "_law_orders", "_law_moved_by"] : List PySem.Str)
theorem run (w : World) : HandSHeadRun.RunEq R (PySem.W.view R.prog [39]) hk ob 4000 names w := by
  intro os
  kernel_rfl
theorem facts {w : World} {K : PySem.W.Frag} {h : Heap} {mg : Str → Option Value} (base : Heap) (X : K.In h) (G : h.Ns mainGlobals mg) (c : HK.SaysX (PySem.Challenge.rw_everyname_k20_whole_operators_of_spans).prog.main.file fa fb fn xs K) : Kn (PySem.Challenge.rw_everyname_k20_whole_operators_of_spans).prog w K mg base "law" 6 ["_law_script"] f_law := by
  have n__law_whole := He.glo_ok X G (c.fact 0 (f := .glo "_law_whole") rfl)
  have n__law_span_is := He.glo_ok X G (c.fact 1 (f := .glo "_law_span_is") rfl)
  have n_paired := He.glo_ok X G (c.fact 2 (f := .glo "paired") rfl)
  have n_turning_points := He.glo_ok X G (c.fact 3 (f := .glo "turning_points") rfl)
  have n_combined := He.glo_ok X G (c.fact 4 (f := .glo "combined") rfl)
  have n__law_orders := He.glo_ok X G (c.fact 5 (f := .glo "_law_orders") rfl)
  have n_span_moved := He.glo_ok X G (c.fact 6 (f := .glo "span_moved") rfl)
  have n_is_whole := He.glo_ok X G (c.fact 7 (f := .glo "is_whole") rfl)
  have n_is_stretch := He.glo_ok X G (c.fact 8 (f := .glo "is_stretch") rfl)
  have n__law_within := He.glo_ok X G (c.fact 9 (f := .glo "_law_within") rfl)
  have n__law_highs := He.glo_ok X G (c.fact 10 (f := .glo "_law_highs") rfl)
  have n__law_joined := He.glo_ok X G (c.fact 11 (f := .glo "_law_joined") rfl)
  have n__law_spread := He.glo_ok X G (c.fact 12 (f := .glo "_law_spread") rfl)
  have n__law_points := He.glo_ok X G (c.fact 13 (f := .glo "_law_points") rfl)
  have n__law_united := He.glo_ok X G (c.fact 14 (f := .glo "_law_united") rfl)
  have n__law_moved_by := He.glo_ok X G (c.fact 15 (f := .glo "_law_moved_by") rfl)
  have n__law_draw := He.glo_ok X G (c.fact 16 (f := .glo "_law_draw") rfl)
  have n__law_great := He.glo_ok X G (c.fact 17 (f := .glo "_law_great") rfl)
  have n__law_integer := He.glo_ok X G (c.fact 18 (f := .glo "_law_integer") rfl)
  have n__law_pick := He.glo_ok X G (c.fact 19 (f := .glo "_law_pick") rfl)
  have n__law_stretch := He.glo_ok X G (c.fact 20 (f := .glo "_law_stretch") rfl)
  have n__law_stretches := He.glo_ok X G (c.fact 21 (f := .glo "_law_stretches") rfl)
  have n__law_base := He.glo_ok X G (c.fact 22 (f := .glo "_law_base") rfl)
  have n__law_pen := He.glo_ok X G (c.fact 23 (f := .glo "_law_pen") rfl)
  have n_law := He.glo_ok X G (c.fact 24 (f := .glo "law") rfl)
  have n_BadValue := He.glo_ok X G (c.fact 25 (f := .glo "BadValue") rfl)
  have n_Span := He.glo_ok X G (c.fact 26 (f := .glo "Span") rfl)
  have n_WITHOUT := He.glo_ok X G (c.fact 27 (f := .glo "WITHOUT") rfl)
  have n_UNION := He.glo_ok X G (c.fact 28 (f := .glo "UNION") rfl)
  have n_EVERY := He.glo_ok X G (c.fact 29 (f := .glo "EVERY") rfl)
  have n_EITHER := He.glo_ok X G (c.fact 30 (f := .glo "EITHER") rfl)
  have n_MEET := He.glo_ok X G (c.fact 31 (f := .glo "MEET") rfl)
  have g_isinstance := He.free_ok X G (c.fact 32 (f := .free "isinstance") rfl)
  have g_bool := He.free_ok X G (c.fact 33 (f := .free "bool") rfl)
  have g_int := He.free_ok X G (c.fact 34 (f := .free "int") rfl)
  have g_all := He.free_ok X G (c.fact 35 (f := .free "all") rfl)
  have g_tuple := He.free_ok X G (c.fact 36 (f := .free "tuple") rfl)
  have g_len := He.free_ok X G (c.fact 37 (f := .free "len") rfl)
  have g_range := He.free_ok X G (c.fact 38 (f := .free "range") rfl)
  have g_list := He.free_ok X G (c.fact 39 (f := .free "list") rfl)
  have g_any := He.free_ok X G (c.fact 40 (f := .free "any") rfl)
  have g_zip := He.free_ok X G (c.fact 41 (f := .free "zip") rfl)
  have g_sorted := He.free_ok X G (c.fact 42 (f := .free "sorted") rfl)
  have g_set := He.free_ok X G (c.fact 43 (f := .free "set") rfl)
  have g_max := He.free_ok X G (c.fact 44 (f := .free "max") rfl)
  have g_abs := He.free_ok X G (c.fact 45 (f := .free "abs") rfl)
  have g_min := He.free_ok X G (c.fact 46 (f := .free "min") rfl)
  have g_super := He.free_ok X G (c.fact 47 (f := .free "super") rfl)
  have cl_Span := He.cls_ok (c.fact 48 (f := .cls "Span") rfl)
  have C_Span : KC K mg "Span" := ⟨cl_Span, isCB_ok cl_Span (c.fx 0 (f := isCB "Span") rfl), He.mkr_ok (c.fact 49 (f := .mkr "Span") rfl), n_Span⟩
  have na_Span_stretches := He.noat_ok (c.fact 50 (f := .noat "Span" "stretches") rfl)
  have o_Span___le__ := ownB_ok (c.fx 1 (f := ownB "Span" "__le__") rfl)
  have o_Span___lt__ := ownB_ok (c.fx 2 (f := ownB "Span" "__lt__") rfl)
  have o_Span___ge__ := ownB_ok (c.fx 3 (f := ownB "Span" "__ge__") rfl)
  have o_Span___gt__ := ownB_ok (c.fx 4 (f := ownB "Span" "__gt__") rfl)
  have o_Span___eq__ := ownB_ok (c.fx 5 (f := ownB "Span" "__eq__") rfl)
  have ne_Span := noNeB_ok (c.fx 6 (f := noNeB "Span") rfl)
  have o_Span___lshift__ := ownB_ok (c.fx 7 (f := ownB "Span" "__lshift__") rfl)
  have nr_Span___rlshift__ := noRB_ok (c.fx 8 (f := noRB "Span" "__rlshift__") rfl)
  have o_Span___rshift__ := ownB_ok (c.fx 9 (f := ownB "Span" "__rshift__") rfl)
  have nr_Span___rrshift__ := noRB_ok (c.fx 10 (f := noRB "Span" "__rrshift__") rfl)
  have o_Span___invert__ := ownB_ok (c.fx 11 (f := ownB "Span" "__invert__") rfl)
  have o_Span___sub__ := ownB_ok (c.fx 12 (f := ownB "Span" "__sub__") rfl)
  have o_Span___xor__ := ownB_ok (c.fx 13 (f := ownB "Span" "__xor__") rfl)
  have o_Span___or__ := ownB_ok (c.fx 14 (f := ownB "Span" "__or__") rfl)
  have o_Span___and__ := ownB_ok (c.fx 15 (f := ownB "Span" "__and__") rfl)
  have q_WITHOUT := gkB_ok (c.fx 16 (f := gkB "WITHOUT" (.kt [(.bl false), (.bl false), (.bl true), (.bl false)])) rfl)
  have q_UNION := gkB_ok (c.fx 17 (f := gkB "UNION" (.kt [(.bl false), (.bl true), (.bl true), (.bl true)])) rfl)
  have q_EVERY := gkB_ok (c.fx 18 (f := gkB "EVERY" (.kt [(.kt [(.int 0), .non])])) rfl)
  have q_EITHER := gkB_ok (c.fx 19 (f := gkB "EITHER" (.kt [(.bl false), (.bl true), (.bl true), (.bl false)])) rfl)
  have q_MEET := gkB_ok (c.fx 20 (f := gkB "MEET" (.kt [(.bl false), (.bl false), (.bl false), (.bl true)])) rfl)
  have y_BadValue := c.xf 0 (d := ⟨"BadValue", "shown", "BadValue.__init__", "no such value may stand here", ⟨⟨9, 17, 9, 21⟩, ⟨9, 23, 9, 28⟩, ⟨10, 8, 10, 13⟩, ⟨10, 8, 10, 15⟩, ⟨10, 8, 10, 24⟩, ⟨10, 25, 10, 55⟩, ⟨10, 8, 10, 56⟩, ⟨11, 8, 11, 12⟩, ⟨11, 8, 11, 18⟩, ⟨11, 21, 11, 26⟩, ⟨11, 8, 11, 26⟩⟩, ⟨10, 8, 10, 56⟩⟩) rfl
  have x_BadValue : XF (PySem.Challenge.rw_everyname_k20_whole_operators_of_spans).prog K mg "BadValue" "shown" := ⟨c.xc 0 (d := ⟨"BadValue", "shown", "BadValue.__init__", "no such value may stand here", ⟨⟨9, 17, 9, 21⟩, ⟨9, 23, 9, 28⟩, ⟨10, 8, 10, 13⟩, ⟨10, 8, 10, 15⟩, ⟨10, 8, 10, 24⟩, ⟨10, 25, 10, 55⟩, ⟨10, 8, 10, 56⟩, ⟨11, 8, 11, 12⟩, ⟨11, 8, 11, 18⟩, ⟨11, 21, 11, 26⟩, ⟨11, 8, 11, 26⟩⟩, ⟨10, 8, 10, 56⟩⟩) rfl (by decide +kernel) g_super (by kernel_rfl) (by decide +kernel) (fun _ _ _ _ _ _ _ _ => rfl), y_BadValue.1, y_BadValue.2.1, y_BadValue.2.2, trivial⟩
  have c_Span___eq__ := ok_Span___eq__ (P := (PySem.Challenge.rw_everyname_k20_whole_operators_of_spans).prog) (w := w) (base := base) (c.def_ 0 (d := dm "Span" "__eq__" "Span.__eq__" 19 4 []) rfl) C_Span g_isinstance na_Span_stretches
  have c__law_whole := ok__law_whole (P := (PySem.Challenge.rw_everyname_k20_whole_operators_of_spans).prog) (w := w) (base := base) (c.def_ 1 (d := dd "_law_whole" 24) rfl) n__law_whole g_isinstance g_bool g_int
  have c__law_span_is := ok__law_span_is (P := (PySem.Challenge.rw_everyname_k20_whole_operators_of_spans).prog) (w := w) (base := base) (c.def_ 2 (d := dd "_law_span_is" 34) rfl) n__law_span_is C_Span c__law_whole g_all g_isinstance g_tuple na_Span_stretches
  have c_paired := ok_paired (P := (PySem.Challenge.rw_everyname_k20_whole_operators_of_spans).prog) (w := w) (base := base) (c.def_ 3 (d := dd "paired" 14) rfl) n_paired g_len g_range g_tuple
  have c_turning_points := ok_turning_points (P := (PySem.Challenge.rw_everyname_k20_whole_operators_of_spans).prog) (w := w) (base := base) (c.def_ 4 (d := dd "turning_points" 13) rfl) n_turning_points
  have c_combined := ok_combined (P := (PySem.Challenge.rw_everyname_k20_whole_operators_of_spans).prog) (w := w) (base := base) (c.def_ 5 (d := dd "combined" 15) rfl) n_combined c_paired c_turning_points g_len
  have c_Span___le__ := ok_Span___le__ (P := (PySem.Challenge.rw_everyname_k20_whole_operators_of_spans).prog) (w := w) (base := base) (c.def_ 6 (d := dm "Span" "__le__" "Span.__le__" 19 5 []) rfl) C_Span q_WITHOUT n_WITHOUT c_combined g_isinstance na_Span_stretches
  have c_Span___lt__ := ok_Span___lt__ (P := (PySem.Challenge.rw_everyname_k20_whole_operators_of_spans).prog) (w := w) (base := base) (c.def_ 7 (d := dm "Span" "__lt__" "Span.__lt__" 19 6 []) rfl) C_Span q_WITHOUT n_WITHOUT c_combined g_isinstance na_Span_stretches
  have c_Span___ge__ := ok_Span___ge__ (P := (PySem.Challenge.rw_everyname_k20_whole_operators_of_spans).prog) (w := w) (base := base) (c.def_ 8 (d := dm "Span" "__ge__" "Span.__ge__" 19 7 []) rfl) C_Span q_WITHOUT n_WITHOUT c_combined g_isinstance na_Span_stretches
  have c_Span___gt__ := ok_Span___gt__ (P := (PySem.Challenge.rw_everyname_k20_whole_operators_of_spans).prog) (w := w) (base := base) (c.def_ 9 (d := dm "Span" "__gt__" "Span.__gt__" 19 8 []) rfl) C_Span q_WITHOUT n_WITHOUT c_combined g_isinstance na_Span_stretches
  have c__law_orders := ok__law_orders (P := (PySem.Challenge.rw_everyname_k20_whole_operators_of_spans).prog) (w := w) (base := base) (c.def_ 10 (d := dd "_law_orders" 37) rfl) n__law_orders C_Span o_Span___le__ o_Span___lt__ o_Span___ge__ o_Span___gt__ o_Span___eq__ ne_Span c_Span___le__ c_Span___lt__ c_Span___ge__ c_Span___gt__ c_Span___eq__ g_isinstance g_bool g_all
  have c_span_moved := ok_span_moved (P := (PySem.Challenge.rw_everyname_k20_whole_operators_of_spans).prog) (w := w) (base := base) (c.def_ 11 (d := dd "span_moved" 16) rfl) n_span_moved g_tuple
  have c_is_whole := ok_is_whole (P := (PySem.Challenge.rw_everyname_k20_whole_operators_of_spans).prog) (w := w) (base := base) (c.def_ 12 (d := dd "is_whole" 5) rfl) n_is_whole g_isinstance g_bool g_int
  have c_is_stretch := ok_is_stretch (P := (PySem.Challenge.rw_everyname_k20_whole_operators_of_spans).prog) (w := w) (base := base) (c.def_ 13 (d := dd "is_stretch" 12) rfl) n_is_stretch c_is_whole g_len g_isinstance g_tuple
  have c_Span___init__ := ok_Span___init__ (P := (PySem.Challenge.rw_everyname_k20_whole_operators_of_spans).prog) (w := w) (base := base) (c.def_ 14 (d := dm "Span" "__init__" "Span.__init__" 19 0 [.adr (He.dflAt ("Span", some "__init__") 0)]) rfl) C_Span q_UNION n_UNION c_combined c_is_stretch g_isinstance g_list g_tuple n_BadValue x_BadValue na_Span_stretches
  have c_Span___lshift__ := ok_Span___lshift__ (P := (PySem.Challenge.rw_everyname_k20_whole_operators_of_spans).prog) (w := w) (base := base) (c.def_ 15 (d := dm "Span" "__lshift__" "Span.__lshift__" 19 18 []) rfl) C_Span c_span_moved c_Span___init__ c_is_whole n_BadValue x_BadValue na_Span_stretches
  have c__law_within := ok__law_within (P := (PySem.Challenge.rw_everyname_k20_whole_operators_of_spans).prog) (w := w) (base := base) (c.def_ 16 (d := dd "_law_within" 30) rfl) n__law_within g_any
  have c__law_highs := ok__law_highs (P := (PySem.Challenge.rw_everyname_k20_whole_operators_of_spans).prog) (w := w) (base := base) (c.def_ 17 (d := dd "_law_highs" 29) rfl) n__law_highs
  have c__law_joined := ok__law_joined (P := (PySem.Challenge.rw_everyname_k20_whole_operators_of_spans).prog) (w := w) (base := base) (c.def_ 18 (d := dd "_law_joined" 28) rfl) n__law_joined
  have c__law_spread := ok__law_spread (P := (PySem.Challenge.rw_everyname_k20_whole_operators_of_spans).prog) (w := w) (base := base) (c.def_ 19 (d := dd "_law_spread" 32) rfl) n__law_spread c__law_highs c__law_joined g_tuple g_zip
  have c__law_points := ok__law_points (P := (PySem.Challenge.rw_everyname_k20_whole_operators_of_spans).prog) (w := w) (base := base) (c.def_ 20 (d := dd "_law_points" 31) rfl) n__law_points g_int g_sorted g_set
  have c__law_united := ok__law_united (P := (PySem.Challenge.rw_everyname_k20_whole_operators_of_spans).prog) (w := w) (base := base) (c.def_ 21 (d := dd "_law_united" 33) rfl) n__law_united c__law_within c__law_spread c__law_points
  have c__law_moved_by := ok__law_moved_by (P := (PySem.Challenge.rw_everyname_k20_whole_operators_of_spans).prog) (w := w) (base := base) (c.def_ 22 (d := dd "_law_moved_by" 38) rfl) n__law_moved_by c__law_united g_max
  have c_Span___rshift__ := ok_Span___rshift__ (P := (PySem.Challenge.rw_everyname_k20_whole_operators_of_spans).prog) (w := w) (base := base) (c.def_ 23 (d := dm "Span" "__rshift__" "Span.__rshift__" 19 17 []) rfl) C_Span c_span_moved c_Span___init__ c_is_whole n_BadValue x_BadValue na_Span_stretches
  have c__law_draw := ok__law_draw (P := (PySem.Challenge.rw_everyname_k20_whole_operators_of_spans).prog) (w := w) (base := base) (c.def_ 24 (d := dd "_law_draw" 22) rfl) n__law_draw g_int g_abs g_len
  have c__law_great := ok__law_great (P := (PySem.Challenge.rw_everyname_k20_whole_operators_of_spans).prog) (w := w) (base := base) (c.def_ 25 (d := dd "_law_great" 25) rfl) n__law_great c__law_draw g_int
  have c__law_integer := ok__law_integer (P := (PySem.Challenge.rw_everyname_k20_whole_operators_of_spans).prog) (w := w) (base := base) (c.def_ 26 (d := dd "_law_integer" 26) rfl) n__law_integer c__law_draw c__law_great
  have c__law_pick := ok__law_pick (P := (PySem.Challenge.rw_everyname_k20_whole_operators_of_spans).prog) (w := w) (base := base) (c.def_ 27 (d := dd "_law_pick" 23) rfl) n__law_pick c__law_draw g_len
  have c_Span___invert__ := ok_Span___invert__ (P := (PySem.Challenge.rw_everyname_k20_whole_operators_of_spans).prog) (w := w) (base := base) (c.def_ 28 (d := dm "Span" "__invert__" "Span.__invert__" 19 13 []) rfl) C_Span q_EVERY n_EVERY q_WITHOUT n_WITHOUT c_combined c_Span___init__ na_Span_stretches
  have c_Span___sub__ := ok_Span___sub__ (P := (PySem.Challenge.rw_everyname_k20_whole_operators_of_spans).prog) (w := w) (base := base) (c.def_ 29 (d := dm "Span" "__sub__" "Span.__sub__" 19 11 []) rfl) C_Span q_WITHOUT n_WITHOUT c_combined c_Span___init__ g_isinstance na_Span_stretches
  have c_Span___xor__ := ok_Span___xor__ (P := (PySem.Challenge.rw_everyname_k20_whole_operators_of_spans).prog) (w := w) (base := base) (c.def_ 30 (d := dm "Span" "__xor__" "Span.__xor__" 19 12 []) rfl) C_Span q_EITHER n_EITHER c_combined c_Span___init__ g_isinstance na_Span_stretches
  have c_Span___or__ := ok_Span___or__ (P := (PySem.Challenge.rw_everyname_k20_whole_operators_of_spans).prog) (w := w) (base := base) (c.def_ 31 (d := dm "Span" "__or__" "Span.__or__" 19 9 []) rfl) C_Span q_UNION n_UNION c_combined c_Span___init__ g_isinstance na_Span_stretches
  have c_Span___and__ := ok_Span___and__ (P := (PySem.Challenge.rw_everyname_k20_whole_operators_of_spans).prog) (w := w) (base := base) (c.def_ 32 (d := dm "Span" "__and__" "Span.__and__" 19 10 []) rfl) C_Span q_MEET n_MEET c_combined c_Span___init__ g_isinstance na_Span_stretches
  have c__law_stretch := ok__law_stretch (P := (PySem.Challenge.rw_everyname_k20_whole_operators_of_spans).prog) (w := w) (base := base) (c.def_ 33 (d := dd "_law_stretch" 35) rfl) n__law_stretch c__law_draw
  have c__law_stretches := ok__law_stretches (P := (PySem.Challenge.rw_everyname_k20_whole_operators_of_spans).prog) (w := w) (base := base) (c.def_ 34 (d := dd "_law_stretches" 36) rfl) n__law_stretches c__law_draw c__law_stretch g_range
  have c__law_base := ok__law_base (P := (PySem.Challenge.rw_everyname_k20_whole_operators_of_spans).prog) (w := w) (base := base) (c.def_ 35 (d := dd "_law_base" 27) rfl) n__law_base c__law_draw c__law_great
  have c__law_pen := ok__law_pen (P := (PySem.Challenge.rw_everyname_k20_whole_operators_of_spans).prog) (w := w) (base := base) (c.def_ 36 (d := dd "_law_pen" 21) rfl) n__law_pen g_list
  have c_law := ok_law (P := (PySem.Challenge.rw_everyname_k20_whole_operators_of_spans).prog) (w := w) (base := base) (c.def_ 37 (d := dd "law" 39) rfl) n_law C_Span o_Span___eq__ o_Span___lshift__ nr_Span___rlshift__ o_Span___rshift__ nr_Span___rrshift__ o_Span___invert__ o_Span___sub__ o_Span___xor__ o_Span___or__ o_Span___and__ c_Span___eq__ c__law_span_is c__law_orders c_Span___lshift__ c__law_moved_by c_Span___rshift__ c__law_integer c__law_draw c__law_pick c__law_spread c_Span___invert__ c_Span___sub__ c_Span___xor__ c_Span___or__ c_Span___and__ c__law_within c__law_points c_Span___init__ c__law_united c__law_stretches c__law_base c__law_pen g_len g_min g_range g_all
  exact c_law
end
end K20
open PySem PySem.W PySem.Calls PyProof.Rows
theorem K20.holds (pure : ∀ ns : List Int, ns.length ≤ 63 → ∃ st, K20.f_law [.kl (ns.map DL.D.int)] [] = .ok (.bl true) st) : PySem.Challenge.rw_everyname_k20_whole_operators_of_spans.Holds := by
  w_on; o_law
  refine HandSHeadRun.head_any (r := OpenLaw.row PySem.Challenge.rw_everyname_k20_whole_operators_of_spans) (q := view (OpenLaw.row PySem.Challenge.rw_everyname_k20_whole_operators_of_spans).prog [39]) (H := K20.hk) (ob := K20.ob) (M := 4000) (loose := K20.names) (d := HandSHeadRun.topDef (OpenLaw.row PySem.Challenge.rw_everyname_k20_whole_operators_of_spans).prog 39) (kwd := []) K20.ob_eq
    (by kernel_rfl) (fun s => by kernel_rfl) K20.run (by kernel_rfl) (by kernel_rfl) (by kernel_rfl) (by rfl) (by first | assumption | decide +kernel) (by decide +kernel) ⟨rfl, rfl, rfl, rfl, rfl, by decide +kernel⟩ ?hw ?hc
  case hw => w_witness2
  case hc =>
    refine L2.walk_ofE (l := PySem.Challenge.rw_everyname_k20_whole_operators_of_spans) (n := 63) (k := 6) (x := "_law_script") (CX := fun _ _ _ _ _ _ => False) rfl (by decide) (by kernel_rfl) ⟨rfl, by decide, by decide⟩ ?F (fun _ _ _ _ z => z)
    intro w mg fa h Y G hmg0
    obtain ⟨K, KX, c⟩ := Y
    have hmg : mg ("law" : PySem.Str) = some (.ref fa) := by
      have e : (HandSHeadRun.topDef (OpenLaw.row PySem.Challenge.rw_everyname_k20_whole_operators_of_spans).prog 39).name = ("law" : PySem.Str) := by kernel_rfl
      rw [← e]
      exact hmg0
    have kn := fun base : Heap => K20.facts (w := w) base KX G c
    obtain ⟨fd, FL⟩ := c.def_ 37 (d := K20.dd "law" 39) rfl
    have bA := fun (s : Shared) (us : List Value) (hl : us.length = ["_law_script"].length) => L2.FunD.bindsA (ps := ["_law_script"]) FL (fun _ _ _ _ _ _ us hl => match us, hl with | [_], _ => rfl) s us hl
    refine ⟨K, fd, fun vs H Q _ => DL.spF K 1 K20.f_law vs H Q fun _ _ _ => False, KX, fun s u => bA s [u] rfl, fun H a ns hl _ hS => DL.law_sp hS (pure ns hl), fun base _ _ => ?_⟩
    exact DL.law_fd (kn base) FL hmg (He.glo_ok KX G (c.fact 24 (f := .glo "law") rfl)) 

theorem PySem.Challenge.cw_everyname_k20_whole_operators_of_spans_holds : PySem.Challenge.rw_everyname_k20_whole_operators_of_spans.Holds :=
  K20.holds K20.law_pure
