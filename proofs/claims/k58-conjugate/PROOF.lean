import PyProof.Rows.All
import Wide.All
import OpenK.AllK
import Wide.FinOn
import HandS.ForMost
import HandS.ForExc
import HandS.CallSlots
import HandS.TryMany
import HandS.Defaults
import HandS.Wide
import HandS.Flow
import HandS.IsInst
import HandS.ExcIs
import HandS.ExcField
import HandS.HeadHook2
import HandS.Conv
import HandS.TupAny
import KE.KEqNest
import HandS.SortInts
import HandS.TupMul
import KE.KExcSuper
import KE.DataEq
import HandS.NoneIn
import HandS.Dict
import KE.GoesMore
import KE.GoesEnum
import HandS.Head0
import HandS.Head1
import HandS.Head2
import HandS.HeadEnd
import HandS.HeadHook1
import HandS.Ends
import KE.KDictDisplayH
import HandS.TupLen
import HandS.DictComp
import PySem.Challenge.RW_everyname_k58_groups_made_conjugate
set_option Elab.async false
set_option linter.all false
set_option maxRecDepth 100000
set_option maxHeartbeats 0
/-! The mirror layer: a def's body is read as a function on plain data (D), with slots that may own a list, and a store of cells. -/
namespace DL
open PySem PySem.Spec L2

/-! ### plain data -/
inductive D where
  | non | bl (b : Bool) | int (i : Int) | str (x : Str) | tup (xs : List D) | lst (xs : List D) | kl (xs : List D) | nod | loc (n : Nat) | ins (c : Str) (fs : List (Str × D))

/-- a raised error: its class, its fields -/
structure Exc where
  c : Str
  fs : List (Str × D)
inductive Slot where
  | emp | imm (d : D) | own (ds : List D) | xn (x : Exc)
/-- a cell of the store -/
inductive Ob where
  | dct (kvs : List (Key × D)) | dtt (kvs : List (List Key × D)) | ins (c : Str) (fs : List (Str × D))
structure S where
  sl : List Slot
  st : List Ob
inductive R (α : Type) where
  | ok (a : α) (s : S) | exc (x : Exc) (s : S) | stuck
def bnd {α β : Type} (m : S → R α) (k : α → S → R β) : S → R β := fun s => match m s with
  | .ok a s' => k a s'
  | .exc x s' => .exc x s'
  | .stuck => .stuck
def ret {α : Type} (a : α) : S → R α := fun s => .ok a s
def stk {α : Type} : S → R α := fun _ => .stuck
inductive Fl where
  | nx | bk | ct | rt (d : D)
abbrev ME := S → R D
abbrev MT := S → R Bool
abbrev MA := S → R (List D)
abbrev MS := S → R Fl

/-! ### the ghost: what is frozen, where the cells stand -/
structure Gh where
  F : Hp
  ad : List Addr
structure Gh.le (G G' : Gh) : Prop where
  f : ∀ a o, G.F a = some o → G'.F a = some o
  d : ∀ (n : Nat) a, G.ad[n]? = some a → G'.ad[n]? = some a
theorem Gh.le.refl (G : Gh) : G.le G := ⟨fun _ _ h => h, fun _ _ h => h⟩
theorem Gh.le.trans {A B C : Gh} (x : A.le B) (y : B.le C) : A.le C := ⟨fun a o h => y.f a o (x.f a o h), fun n a h => y.d n a (x.d n a h)⟩

mutual
inductive Rep (K : PySem.W.Frag) (G : Gh) : V → D → Prop
  | non : Rep K G .non .non
  | bl (b : Bool) : Rep K G (.bl b) (.bl b)
  | int (i : Int) : Rep K G (.int i) (.int i)
  | str (x : Str) : Rep K G (.str x) (.str x)
  | tup {a : Addr} {vs : List V} {ds : List D} : G.F a = some (.tup vs) → Reps K G vs ds → Rep K G (.ref a) (.tup ds)
  | lst {a : Addr} {vs : List V} {ds : List D} : G.F a = some (.lst vs) → Reps K G vs ds → Rep K G (.ref a) (.lst ds)
  | kl {a : Addr} {vs : List V} {ds : List D} : SqL K G.F a vs → Reps K G vs ds → Rep K G (.ref a) (.kl ds)
  | nod {a : Addr} : G.F a = some (.dK []) → Rep K G (.ref a) .nod
  | loc {n : Nat} {a : Addr} : G.ad[n]? = some a → Rep K G (.ref a) (.loc n)
  | ins {a dx : Addr} {c : Str} {fvs : List (Str × V)} {fs : List (Str × D)} : G.F a = some (.ins (He.ga K c) dx fvs) → RepF K G fvs fs → Rep K G (.ref a) (.ins c fs)
inductive Reps (K : PySem.W.Frag) (G : Gh) : List V → List D → Prop
  | nil : Reps K G [] []
  | cons {v : V} {vs : List V} {d : D} {ds : List D} : Rep K G v d → Reps K G vs ds → Reps K G (v :: vs) (d :: ds)
inductive RepF (K : PySem.W.Frag) (G : Gh) : List (Str × V) → List (Str × D) → Prop
  | nil : RepF K G [] []
  | cons {f : Str} {v : V} {vs : List (Str × V)} {d : D} {ds : List (Str × D)} : Rep K G v d → RepF K G vs ds → RepF K G ((f, v) :: vs) ((f, d) :: ds)
end

section
variable {K : PySem.W.Frag} {G G' : Gh}
theorem sqT_mono {F F' : Hp} {a : Addr} {xs : List V} (e : ∀ a o, F a = some o → F' a = some o) (h : SqT K F a xs) : SqT K F' a xs := by
  rcases h with (h | ⟨o, h⟩) | h
  · exact .inl (.inl (e _ _ h))
  · exact .inl (.inr ⟨o, e _ _ h⟩)
  · exact .inr h
theorem tqT {F F' : Hp} {a : Addr} {xs : List V} (e : ∀ a o, F a = some o → F' a = some o) (h : F a = some (.tup xs)) : SqT K F' a xs := SqT.of (e _ _ h)
theorem sqL_mono {F F' : Hp} {a : Addr} {xs : List V} (e : ∀ a o, F a = some o → F' a = some o) (h : SqL K F a xs) : SqL K F' a xs := by
  rcases h with (h | ⟨o, h⟩) | h
  · exact .inl (.inl (e _ _ h))
  · exact .inl (.inr ⟨o, e _ _ h⟩)
  · exact .inr h
theorem rd_mono {F F' : Hp} {a : Addr} {u : HO} (e : ∀ a o, F a = some o → F' a = some o) (h : Rd F a u) : Rd F' a u := by
  rcases h with h | ⟨o, h⟩
  · exact .inl (e _ _ h)
  · exact .inr ⟨o, e _ _ h⟩
mutual
theorem Rep.mono (e : G.le G') : ∀ {v : V} {d : D}, Rep K G v d → Rep K G' v d
  | _, _, .non => .non
  | _, _, .bl b => .bl b
  | _, _, .int i => .int i
  | _, _, .str x => .str x
  | _, _, .tup h r => .tup (e.f _ _ h) (Reps.mono e r)
  | _, _, .lst h r => .lst (e.f _ _ h) (Reps.mono e r)
  | _, _, .kl h r => .kl (sqL_mono e.f h) (Reps.mono e r)
  | _, _, .nod h => .nod (e.f _ _ h)
  | _, _, .loc h => .loc (e.d _ _ h)
  | _, _, .ins h r => .ins (e.f _ _ h) (RepF.mono e r)
theorem Reps.mono (e : G.le G') : ∀ {v : List V} {d : List D}, Reps K G v d → Reps K G' v d
  | _, _, .nil => .nil
  | _, _, .cons h r => .cons (Rep.mono e h) (Reps.mono e r)
theorem RepF.mono (e : G.le G') : ∀ {v : List (Str × V)} {d : List (Str × D)}, RepF K G v d → RepF K G' v d
  | _, _, .nil => .nil
  | _, _, .cons h r => .cons (Rep.mono e h) (RepF.mono e r)
end
theorem Reps.length : ∀ {vs : List V} {ds : List D}, Reps K G vs ds → vs.length = ds.length
  | _, _, .nil => rfl
  | _, _, .cons _ r => congrArg Nat.succ (Reps.length r)
theorem Reps.get : ∀ {vs : List V} {ds : List D} {i : Nat} {d : D}, Reps K G vs ds → ds[i]? = some d → ∃ v, vs[i]? = some v ∧ Rep K G v d
  | _, _, _, _, .nil, e => by simp at e
  | _, _, 0, _, .cons h _, e => by simp at e; subst e; exact ⟨_, rfl, h⟩
  | _, _, i + 1, d, .cons _ r, e => by
    obtain ⟨v, h1, h2⟩ := Reps.get (i := i) (d := d) r (by simpa using e)
    exact ⟨v, by simpa using h1, h2⟩
theorem Reps.get' : ∀ {vs : List V} {ds : List D} {i : Nat} {v : V}, Reps K G vs ds → vs[i]? = some v → ∃ d, ds[i]? = some d ∧ Rep K G v d
  | _, _, _, _, .nil, e => by simp at e
  | _, _, 0, _, .cons h _, e => by simp at e; subst e; exact ⟨_, rfl, h⟩
  | _, _, i + 1, d, .cons _ r, e => by
    obtain ⟨v, h1, h2⟩ := Reps.get' (i := i) (v := d) r (by simpa using e)
    exact ⟨v, by simpa using h1, h2⟩
theorem Reps.append : ∀ {vs ws : List V} {ds es : List D}, Reps K G vs ds → Reps K G ws es → Reps K G (vs ++ ws) (ds ++ es)
  | _, _, _, _, .nil, s => s
  | _, _, _, _, .cons h r, s => .cons h (Reps.append r s)
theorem Reps.take : ∀ {vs : List V} {ds : List D} (n : Nat), Reps K G vs ds → Reps K G (vs.take n) (ds.take n)
  | _, _, 0, _ => .nil
  | _, _, _ + 1, .nil => .nil
  | _, _, n + 1, .cons h r => .cons h (Reps.take n r)
theorem Reps.drop : ∀ {vs : List V} {ds : List D} (n : Nat), Reps K G vs ds → Reps K G (vs.drop n) (ds.drop n)
  | _, _, 0, r => r
  | _, _, _ + 1, .nil => .nil
  | _, _, n + 1, .cons _ r => Reps.drop n r
theorem Reps.set {v : V} {d : D} (h : Rep K G v d) : ∀ {vs : List V} {ds : List D} (i : Nat), Reps K G vs ds → Reps K G (vs.set i v) (ds.set i d)
  | _, _, _, .nil => .nil
  | _, _, 0, .cons _ r => .cons h r
  | _, _, i + 1, .cons q r => .cons q (Reps.set h i r)
end

/-- an error as it flies -/
def XRep (K : PySem.W.Frag) (G : Gh) (cls : Value) (d : Option Addr) (x : Exc) : Prop := cls = .ref (He.ga K x.c) ∧
  match x.fs with
  | [] => d = none
  | fs => ∃ a fvs, d = some a ∧ G.F a = some (.xd fvs) ∧ RepF K G fvs fs
theorem XRep.mono {K : PySem.W.Frag} {G G' : Gh} {cls : Value} {d : Option Addr} {x : Exc} (e : G.le G') (h : XRep K G cls d x) : XRep K G' cls d x := by
  obtain ⟨h1, h2⟩ := h
  refine ⟨h1, ?_⟩
  cases hx : x.fs with
  | nil => rw [hx] at h2; exact h2
  | cons f fs =>
    rw [hx] at h2
    obtain ⟨a, fvs, q1, q2, q3⟩ := h2
    exact ⟨a, fvs, q1, e.f _ _ q2, q3.mono e⟩

/-! ### from the entry of a def to here -/
structure Le (G : Gh) (H : Hp) (G' : Gh) (H' : Hp) : Prop where
  g : G.le G'
  nw : ∀ a ∈ G'.ad, a ∈ G.ad ∨ H a = none
  fz : ∀ a o, G'.F a = some o → G.F a = some o ∨ H a = none ∨ ∃ vs, o = .tup vs ∧ a ∉ G.ad ∧ ∀ o', H a = some o' → o' = .tup vs
  kp : ∀ a o, H a = some o → a ∉ G.ad → H' a = some o
  dm : ∀ a o, H a = some o → ∃ o', H' a = some o'
theorem Le.refl (G : Gh) (H : Hp) : Le G H G H := ⟨.refl G, fun _ h => .inl h, fun _ _ h => .inl h, fun _ _ h _ => h, fun _ o h => ⟨o, h⟩⟩
theorem Le.free {G G' : Gh} {H H' : Hp} (l : Le G H G' H') {a : Addr} (h : H' a = none) : H a = none := by
  cases q : H a with
  | none => rfl
  | some o =>
    obtain ⟨o', e⟩ := l.dm a o q
    rw [h] at e; cases e
theorem Le.trans {A B C : Gh} {H1 H2 H3 : Hp} (x : Le A H1 B H2) (y : Le B H2 C H3) : Le A H1 C H3 where
  g := x.g.trans y.g
  nw := fun a h => by
    rcases y.nw a h with q | q
    · exact x.nw a q
    · exact .inr (x.free q)
  fz := fun a o h => by
    rcases y.fz a o h with q | q | ⟨vs, e, na, hh⟩
    · exact x.fz a o q
    · exact .inr (.inl (x.free q))
    · have na2 : a ∉ A.ad := fun m => by
        obtain ⟨n, hn⟩ := List.mem_iff_getElem?.mp m
        exact na (List.mem_of_getElem? (x.g.d n a hn))
      exact .inr (.inr ⟨vs, e, na2, fun o1 h1 => hh o1 (x.kp a o1 h1 na2)⟩)
  kp := fun a o h n => y.kp a o (x.kp a o h n) fun q => by
    rcases x.nw a q with z | z
    · exact n z
    · rw [h] at z; cases z
  dm := fun a o h => let ⟨o', e⟩ := x.dm a o h; y.dm a o' e

/-! ### what stands for what -/
def KvRel {κ : Type} (K : PySem.W.Frag) (G : Gh) : List (κ × V) → List (κ × D) → Prop := Paired fun p q => p.1 = q.1 ∧ Rep K G p.2 q.2
theorem KvRel.mono {κ : Type} {K : PySem.W.Frag} {G G' : Gh} (e : G.le G') {a : List (κ × V)} {b : List (κ × D)} (h : KvRel K G a b) : KvRel K G' a b := Paired.mapP h fun _ _ ⟨x, y⟩ => ⟨x, y.mono e⟩
def ObRel (K : PySem.W.Frag) (G : Gh) (H : Hp) (a : Addr) : Ob → Prop
  | .dct kvs => ∃ vs, H a = some (.dK vs) ∧ KvRel K G vs kvs
  | .dtt kvs => ∃ vs, H a = some (.dT vs) ∧ KvRel K G vs kvs
  | .ins c fs => ∃ dx fvs, H a = some (.ins (He.ga K c) dx fvs) ∧ RepF K G fvs fs
theorem ObRel.mono {K : PySem.W.Frag} {G G' : Gh} {H H' : Hp} {a : Addr} {o : Ob} (e : G.le G') (k : ∀ u, H a = some u → H' a = some u) (h : ObRel K G H a o) : ObRel K G' H' a o := by
  cases o with
  | dct kvs => obtain ⟨vs, q, r⟩ := h; exact ⟨vs, k _ q, r.mono e⟩
  | dtt kvs => obtain ⟨vs, q, r⟩ := h; exact ⟨vs, k _ q, r.mono e⟩
  | ins c fs => obtain ⟨dx, vs, q, r⟩ := h; exact ⟨dx, vs, k _ q, r.mono e⟩
theorem ObRel.there {K : PySem.W.Frag} {G : Gh} {H : Hp} {a : Addr} {o : Ob} (h : ObRel K G H a o) : ∃ u, H a = some u := by
  cases o with
  | dct kvs => obtain ⟨vs, q, r⟩ := h; exact ⟨_, q⟩
  | dtt kvs => obtain ⟨vs, q, r⟩ := h; exact ⟨_, q⟩
  | ins c fs => obtain ⟨dx, vs, q, r⟩ := h; exact ⟨_, q⟩
structure StRel (K : PySem.W.Frag) (G : Gh) (H : Hp) (st : List Ob) : Prop where
  len : G.ad.length = st.length
  at_ : ∀ (n : Nat) a o, G.ad[n]? = some a → st[n]? = some o → ObRel K G H a o
  nof : ∀ a ∈ G.ad, G.F a = none
  nd : G.ad.Nodup
theorem StRel.there {K : PySem.W.Frag} {G : Gh} {H : Hp} {st : List Ob} (h : StRel K G H st) {a : Addr} (m : a ∈ G.ad) : ∃ u, H a = some u := by
  obtain ⟨n, hn⟩ := List.mem_iff_getElem?.mp m
  obtain ⟨hl, _⟩ := List.getElem?_eq_some_iff.mp hn
  have hl2 : n < st.length := by rw [← h.len]; exact hl
  exact (h.at_ n a st[n] hn (List.getElem?_eq_getElem hl2)).there

structure SlRel (K : PySem.W.Frag) (pn : List (Addr × Obj)) (H0 : Hp) (G : Gh) (σ : St) (H : Hp) (sl : List Slot) : Prop where
  len : σ.length = sl.length
  imm : ∀ (i : Nat) d, sl[i]? = some (.imm d) → ∃ v, σ[i]? = some (some v) ∧ Rep K G v d
  own : ∀ (i : Nat) ds, sl[i]? = some (.own ds) → ∃ a vs, σ[i]? = some (some (.ref a)) ∧ H a = some (.lst vs) ∧ Reps K G vs ds ∧ G.F a = none ∧ a ∉ G.ad ∧ H0 a = none
  dis : ∀ (i j : Nat) ds es a, sl[i]? = some (.own ds) → sl[j]? = some (.own es) → σ[i]? = some (some (.ref a)) → σ[j]? = some (some (.ref a)) → i = j
  xn : ∀ (i : Nat) x, sl[i]? = some (.xn x) → ∃ a oe tl cls d, pn = (a, oe) :: tl ∧ σ[i]? = some (some (.ref a)) ∧ Zc cls d oe ∧ XRep K G cls d x

structure Wd where
  G0 : Gh
  H0 : Hp
  G : Gh
  σ : St
  H : Hp
  s : S
  /-- objects under way that nobody else holds (a comprehension's list) -/
  pr : List (Addr × HO) := []
/-- what a thing under way keeps -/
def isT : HO → Bool
  | .tup _ => true
  | _ => false
def PrOk (w : Wd) : Prop := ∀ q ∈ w.pr, w.H q.1 = some q.2 ∧ w.G.F q.1 = none ∧ (q.1 ∉ w.G.ad ∧ isT q.2 = false) ∧ w.H0 q.1 = none ∧ ∀ (i : Nat) es, w.s.sl[i]? = some (.own es) → w.σ[i]? ≠ some (some (.ref q.1))
structure Rel (K : PySem.W.Frag) (pn : List (Addr × Obj)) (w : Wd) : Prop where
  ex : ∀ a o, w.G.F a = some o → w.H a = some o
  le : Le w.G0 w.H0 w.G w.H
  st : StRel K w.G w.H w.s.st
  sl : SlRel K pn w.H0 w.G w.σ w.H w.s.sl
  pr : PrOk w

/-! ### readings -/
section
variable {α β γ δ : Type}
/-- what is wished of a mirror's end -/
def okG (K : PySem.W.Frag) (pn : List (Addr × Obj)) (W : WX) (A : Wd → β → α → Prop) (w : Wd) (Q : β → Hp → Prop) : R α → Prop
  | .ok a s' => ∀ G' b H', w.G.le G' → Rel K pn { w with G := G', H := H', s := s' } → A { w with G := G', H := H', s := s' } b a → Q b H'
  | .exc x s' => ∀ G' c d H', w.G.le G' → Rel K pn { w with G := G', H := H', s := s' } → XRep K G' c d x → W c d w.σ H'
  | .stuck => False
def tG (K : PySem.W.Frag) (pn : List (Addr × Obj)) (W : WX) (A : Wd → β → α → Prop) (m : S → R α) : St → Hp → (β → Hp → Prop) → Prop := fun σ H Q => ∃ w : Wd, w.σ = σ ∧ w.H = H ∧ Rel K pn w ∧ okG K pn W A w Q (m w.s)
abbrev AR (K : PySem.W.Frag) : Wd → V → D → Prop := fun w v d => Rep K w.G v d
abbrev ARs (K : PySem.W.Frag) : Wd → List V → List D → Prop := fun w v d => Reps K w.G v d
abbrev AB : Wd → Bool → Bool → Prop := fun _ b c => b = c
abbrev AU : Wd → Unit → Unit → Prop := fun _ _ _ => True
/-- a new list that nobody else holds -/
def AF (K : PySem.W.Frag) : Wd → V → List D → Prop := fun w v ds => ∃ a vs, v = .ref a ∧ w.H a = some (.lst vs) ∧ Reps K w.G vs ds ∧ w.G.F a = none ∧ a ∉ w.G.ad ∧ w.H0 a = none ∧
  (∀ (i : Nat) es, w.s.sl[i]? = some (.own es) → w.σ[i]? ≠ some (some (.ref a))) ∧ ∀ q ∈ w.pr, q.1 ≠ a
variable {K : PySem.W.Frag} {pn : List (Addr × Obj)} {W : WX}
theorem okG.up {A : Wd → β → α → Prop} {w : Wd} {Q : β → Hp → Prop} {r : R α} (h : okG K pn W A w Q r) {G' : Gh} {H' : Hp} {s' : S} (e : w.G.le G') : okG K pn W A { w with G := G', H := H', s := s' } Q r := by
  cases r with
  | ok a s2 => exact fun G2 b H2 e2 r2 a2 => h G2 b H2 (e.trans e2) r2 a2
  | exc x s2 => exact fun G2 c d H2 e2 r2 a2 => h G2 c d H2 (e.trans e2) r2 a2
  | stuck => exact h
theorem okG.mono {A : Wd → β → α → Prop} {w : Wd} {Q Q' : β → Hp → Prop} {r : R α} (h : okG K pn W A w Q r) (hq : ∀ b H', Q b H' → Q' b H') : okG K pn W A w Q' r := by
  cases r with
  | ok a s2 => exact fun G2 b H2 e2 r2 a2 => hq _ _ (h G2 b H2 e2 r2 a2)
  | exc x s2 => exact h
  | stuck => exact h
/-- THE STEP: m first, then k -/
theorem run {A : Wd → β → α → Prop} {B : Wd → δ → γ → Prop} {m : S → R α} {k : α → S → R γ} {w : Wd} {Q : δ → Hp → Prop} {Q1 : β → Hp → Prop} (r : Rel K pn w) (h : okG K pn W B w Q (bnd m k w.s))
    (hk : ∀ a s' G' b H', w.G.le G' → Rel K pn { w with G := G', H := H', s := s' } → A { w with G := G', H := H', s := s' } b a → okG K pn W B { w with G := G', H := H', s := s' } Q (k a s') → Q1 b H') : tG K pn W A m w.σ w.H Q1 := by
  refine ⟨w, rfl, rfl, r, ?_⟩
  unfold bnd at h
  cases hm : m w.s with
  | ok a s' =>
    rw [hm] at h
    intro G' b H' e r' ha
    exact hk a s' G' b H' e r' ha (h.up e)
  | exc x s' =>
    rw [hm] at h
    exact h
  | stuck =>
    rw [hm] at h
    exact h
theorem fin {B : Wd → δ → γ → Prop} {w : Wd} {Q : δ → Hp → Prop} {c : γ} {d : δ} (r : Rel K pn w) (h : okG K pn W B w Q (.ok c w.s)) (hb : B w d c) : Q d w.H := h w.G d w.H (.refl _) r hb
end

/-! ### judgements -/
def JE (X : Cx) (W : WX) (e : Expr) (m : ME) : Prop := PE X e (tG X.K X.pn W (AR X.K) m)
def JF (X : Cx) (W : WX) (e : Expr) (m : MA) : Prop := PE X e (tG X.K X.pn W (AF X.K) m)
structure JA (X : Cx) (W : WX) (es : List Expr) (m : MA) : Prop where
  pa : PA X es (tG X.K X.pn W (ARs X.K) m)
  len : ∀ s as s', m s = .ok as s' → as.length = es.length
def JT (X : Cx) (W : WX) (e : Expr) (m : MT) : Prop := PT X e (tG X.K X.pn W AB m)
/-- a test inside and, or -/
def JW (X : Cx) (W : WX) (e : Expr) (m : MT) : Prop := PW X e (tG X.K X.pn W AB m)
def okS (K : PySem.W.Frag) (pn : List (Addr × Obj)) (W : WX) (w : Wd) (D : Ends) : R Fl → Prop
  | .ok fl s' => ∀ G' σ' H', w.G.le G' → Rel K pn { w with G := G', σ := σ', H := H', s := s' } → match fl with
    | .nx => D.nx σ' H'
    | .bk => D.bk σ' H'
    | .ct => D.ct σ' H'
    | .rt d => ∀ v, Rep K G' v d → D.rt v H'
  | .exc x s' => ∀ G' σ' c d H', w.G.le G' → Rel K pn { w with G := G', σ := σ', H := H', s := s' } → XRep K G' c d x → W c d σ' H'
  | .stuck => False
def tS (K : PySem.W.Frag) (pn : List (Addr × Obj)) (W : WX) (m : MS) : TS := fun D σ H => ∃ w : Wd, w.σ = σ ∧ w.H = H ∧ Rel K pn w ∧ okS K pn W w D (m w.s)
def JS (X : Cx) (W : WX) (st : Stmt) (m : MS) : Prop := PS X st (tS X.K X.pn W m)
def JSs (X : Cx) (W : WX) (st : List Stmt) (m : MS) : Prop := PSs X st (tS X.K X.pn W m)

theorem PE.imp {X : Cx} {e : Expr} {t t' : TE} (h : PE X e t) (i : ∀ σ H Q, t' σ H Q → t σ H Q) : PE X e t' := ⟨fun pins s σ H Q I q => h.run pins s σ H Q I (i _ _ _ q)⟩
theorem PA.imp {X : Cx} {e : List Expr} {t t' : TA} (h : PA X e t) (i : ∀ σ H Q, t' σ H Q → t σ H Q) : PA X e t' := ⟨fun pos pins s σ H Q I q => h.run pos pins s σ H Q I (i _ _ _ q)⟩
theorem PT.imp {X : Cx} {e : Expr} {t t' : TT} (h : PT X e t) (i : ∀ σ H Q, t' σ H Q → t σ H Q) : PT X e t' := ⟨fun pins s σ H Q I q => h.run pins s σ H Q I (i _ _ _ q)⟩
theorem PW.imp {X : Cx} {e : Expr} {t t' : TT} (h : PW X e t) (i : ∀ σ H Q, t' σ H Q → t σ H Q) : PW X e t' := ⟨fun wh pins s σ H Q I q => h.run wh pins s σ H Q I (i _ _ _ q)⟩
theorem PS.imp {X : Cx} {e : Stmt} {t t' : TS} (h : PS X e t) (i : ∀ D σ H, t' D σ H → t D σ H) : PS X e t' := ⟨fun pins s σ H D I q => h.run pins s σ H D I (i _ _ _ q)⟩
theorem PSs.imp {X : Cx} {e : List Stmt} {t t' : TS} (h : PSs X e t) (i : ∀ D σ H, t' D σ H → t D σ H) : PSs X e t' := ⟨fun pins s σ H D I q => h.run pins s σ H D I (i _ _ _ q)⟩
end DL

namespace DL
open PySem PySem.Spec L2

/-! ### how the heap moves -/
section
variable {K : PySem.W.Frag} {pn : List (Addr × Obj)} {w : Wd}
theorem upd_none {H : Hp} {p a : Addr} {o : HO} (h : upd H p o a = none) : a ≠ p ∧ H a = none := by
  by_cases e : a = p
  · subst e; rw [upd_same] at h; cases h
  · rw [upd_ne e] at h; exact ⟨e, h⟩
theorem upd_get {H : Hp} {p a : Addr} {o u : HO} (h : upd H p o a = some u) : (a = p ∧ u = o) ∨ (a ≠ p ∧ H a = some u) := by
  by_cases e : a = p
  · subst e; rw [upd_same] at h; cases h; exact .inl ⟨rfl, rfl⟩
  · rw [upd_ne e] at h; exact .inr ⟨e, h⟩
/-- an object that is not there yet is laid -/
theorem Rel.alloc (r : Rel K pn w) {p : Addr} {o : HO} (hp : w.H p = none) : Rel K pn { w with H := upd w.H p o } := by
  have up : ∀ a u, w.H a = some u → upd w.H p o a = some u := fun a u h => by rw [upd_ne (ne_of_none h hp)]; exact h
  refine ⟨fun a u h => up a u (r.ex a u h), ⟨r.le.g, r.le.nw, r.le.fz, fun a u h n => up a u (r.le.kp a u h n), fun a u h => ?_⟩, ⟨r.st.len, fun n a u h1 h2 => (r.st.at_ n a u h1 h2).mono (.refl _) (up a), r.st.nof, r.st.nd⟩, ⟨r.sl.len, r.sl.imm, fun i ds h => ?_, r.sl.dis, r.sl.xn⟩, fun q hq => ?_⟩
  · obtain ⟨u', h'⟩ := r.le.dm a u h
    exact ⟨u', up a u' h'⟩
  · obtain ⟨a, vs, h1, h2, h3⟩ := r.sl.own i ds h
    exact ⟨a, vs, h1, up a _ h2, h3⟩
  · obtain ⟨h1, h2⟩ := r.pr q hq
    exact ⟨up _ _ h1, h2⟩
theorem gle_upd {G : Gh} {p : Addr} {o : HO} (hp : G.F p = none) : G.le { G with F := upd G.F p o } := ⟨fun a u h => by show upd G.F p o a = some u; rw [upd_ne (ne_of_none h hp)]; exact h, fun _ _ h => h⟩
/-- what nobody changes any more is frozen -/
theorem Rel.freeze (r : Rel K pn w) {p : Addr} {o : HO} (hp : w.H p = some o) (hf : w.G.F p = none) (ha : p ∉ w.G.ad) (h0 : w.H0 p = none) (hs : ∀ (i : Nat) es, w.s.sl[i]? = some (.own es) → w.σ[i]? ≠ some (some (.ref p))) (hpr : ∀ q ∈ w.pr, q.1 ≠ p) :
    Rel K pn { w with G := { w.G with F := upd w.G.F p o } } := by
  have g := gle_upd (o := o) hf
  refine ⟨fun a u h => ?_, ⟨r.le.g.trans g, r.le.nw, fun a u h => ?_, r.le.kp, r.le.dm⟩, ⟨r.st.len, fun n a u h1 h2 => (r.st.at_ n a u h1 h2).mono g fun _ q => q, fun a h => ?_, r.st.nd⟩, ⟨r.sl.len, fun i d h => ?_, fun i ds h => ?_, r.sl.dis, fun i x h => ?_⟩, fun q hq => ?_⟩
  · rcases upd_get h with ⟨e, z⟩ | ⟨e, z⟩
    · rw [e, z]; exact hp
    · exact r.ex a u z
  · rcases upd_get h with ⟨e, z⟩ | ⟨e, z⟩
    · rw [e]; exact .inr (.inl h0)
    · exact r.le.fz a u z
  · exact (upd_ne (show a ≠ p from fun e => ha (e ▸ h))).trans (r.st.nof a h)
  · obtain ⟨v, h1, h2⟩ := r.sl.imm i d h
    exact ⟨v, h1, h2.mono g⟩
  · obtain ⟨a, vs, h1, h2, h3, h4, h5⟩ := r.sl.own i ds h
    refine ⟨a, vs, h1, h2, h3.mono g, ?_, h5⟩
    exact (upd_ne (show a ≠ p from fun e => hs i ds h (e ▸ h1))).trans h4
  · obtain ⟨a, oe, tl, cls, d, h1, h2, h3, h4⟩ := r.sl.xn i x h
    exact ⟨a, oe, tl, cls, d, h1, h2, h3, h4.mono g⟩
  · obtain ⟨h1, h2, h3⟩ := r.pr q hq
    exact ⟨h1, (upd_ne (hpr q hq)).trans h2, h3⟩
theorem Rel.noF (r : Rel K pn w) {p : Addr} (hp : w.H p = none) : w.G.F p = none := by
  cases q : w.G.F p with
  | none => rfl
  | some o => rw [r.ex p o q] at hp; cases hp
theorem Rel.noA (r : Rel K pn w) {p : Addr} (hp : w.H p = none) : p ∉ w.G.ad := fun h => by
  obtain ⟨u, hu⟩ := r.st.there h
  rw [hp] at hu; cases hu
theorem Rel.no0 (r : Rel K pn w) {p : Addr} (hp : w.H p = none) : w.H0 p = none := r.le.free hp
theorem Rel.noS (r : Rel K pn w) {p : Addr} (hp : w.H p = none) (i : Nat) (es : List D) (h : w.s.sl[i]? = some (.own es)) : w.σ[i]? ≠ some (some (.ref p)) := fun q => by
  obtain ⟨a, vs, h1, h2, _⟩ := r.sl.own i es h
  rw [q] at h1
  cases h1
  rw [hp] at h2; cases h2
theorem Rel.noP (r : Rel K pn w) {p : Addr} (hp : w.H p = none) : ∀ q ∈ w.pr, q.1 ≠ p := fun q hq e => by
  have := (r.pr q hq).1
  rw [e, hp] at this; cases this
/-- a new object, frozen at once -/
theorem Rel.new (r : Rel K pn w) {p : Addr} {o : HO} (hp : w.H p = none) : Rel K pn { w with G := { w.G with F := upd w.G.F p o }, H := upd w.H p o } :=
  Rel.freeze (w := { w with H := upd w.H p o }) (r.alloc hp) upd_same (r.noF hp) (r.noA hp) (r.no0 hp) (r.noS hp) (r.noP hp)
/-- a new list of one's own -/
theorem AF.new (r : Rel K pn w) {p : Addr} {vs : List V} {ds : List D} (hp : w.H p = none) (h : Reps K w.G vs ds) : AF K { w with H := upd w.H p (.lst vs) } (.ref p) ds :=
  ⟨p, vs, rfl, upd_same, h, r.noF hp, r.noA hp, r.no0 hp, r.noS hp, r.noP hp⟩
/-- .. frozen -/
theorem AF.rep (r : Rel K pn w) {v : V} {ds : List D} (h : AF K w v ds) : ∃ G', w.G.le G' ∧ Rel K pn { w with G := G' } ∧ Rep K G' v (.lst ds) := by
  obtain ⟨a, vs, rfl, h1, h2, h3, h4, h5, h6, h7⟩ := h
  exact ⟨_, gle_upd h3, r.freeze h1 h3 h4 h5 h6 h7, .lst upd_same (h2.mono (gle_upd h3))⟩
/-- the extension of the ghost keeps all relations between values -/
theorem Rel.len (r : Rel K pn w) : w.σ.length = w.s.sl.length := r.sl.len

/-! slots -/
def S.put (s : S) (i : Nat) (x : Slot) : S := { s with sl := s.sl.set i x }
theorem set_get {α : Type} {l : List α} {i j : Nat} {x y : α} (h : (l.set i x)[j]? = some y) : (j = i ∧ y = x) ∨ (j ≠ i ∧ l[j]? = some y) := by
  by_cases e : j = i
  · subst e
    by_cases hl : j < l.length
    · rw [List.getElem?_set_self hl] at h; cases h; exact .inl ⟨rfl, rfl⟩
    · rw [List.getElem?_eq_none (by simpa using hl)] at h; cases h
  · rw [List.getElem?_set_ne (Ne.symm e)] at h; exact .inr ⟨e, h⟩
theorem set_lt {α : Type} {l : List α} {i j : Nat} {x y : α} (h : (l.set i x)[j]? = some y) : j < l.length := by
  have := (List.getElem?_eq_some_iff.mp h).1
  simpa using this
/-- slot i is given a value -/
theorem Rel.set (r : Rel K pn w) {i : Nat} {v : V} {d : D} (h : Rep K w.G v d) : Rel K pn { w with σ := w.σ.set i (some v), s := w.s.put i (.imm d) } := by
  refine ⟨r.ex, r.le, r.st, ⟨by show (w.σ.set i (some v)).length = (w.s.sl.set i (.imm d)).length; rw [List.length_set, List.length_set]; exact r.sl.len, fun j e q => ?_, fun j ds q => ?_, fun j k ds es a q1 q2 q3 q4 => ?_, fun j x q => ?_⟩, fun q hq => ?_⟩
  · have hl : j < w.σ.length := by rw [r.sl.len]; exact set_lt q
    rcases set_get q with ⟨e1, e2⟩ | ⟨e1, e2⟩
    · subst e1; cases e2
      exact ⟨v, List.getElem?_set_self hl, h⟩
    · obtain ⟨u, h1, h2⟩ := r.sl.imm j e e2
      exact ⟨u, by show (w.σ.set i (some v))[j]? = _; rw [List.getElem?_set_ne (Ne.symm e1)]; exact h1, h2⟩
  · rcases set_get q with ⟨e1, e2⟩ | ⟨e1, e2⟩
    · cases e2
    · obtain ⟨a, vs, h1, h2⟩ := r.sl.own j ds e2
      exact ⟨a, vs, by show (w.σ.set i (some v))[j]? = _; rw [List.getElem?_set_ne (Ne.symm e1)]; exact h1, h2⟩
  · rcases set_get q1 with ⟨e1, e2⟩ | ⟨e1, e2⟩
    · cases e2
    · rcases set_get q2 with ⟨e3, e4⟩ | ⟨e3, e4⟩
      · cases e4
      · have z1 : w.σ[j]? = some (some (.ref a)) := by rw [← q3]; exact (List.getElem?_set_ne (Ne.symm e1)).symm
        have z2 : w.σ[k]? = some (some (.ref a)) := by rw [← q4]; exact (List.getElem?_set_ne (Ne.symm e3)).symm
        exact r.sl.dis j k ds es a e2 e4 z1 z2
  · rcases set_get q with ⟨e1, e2⟩ | ⟨e1, e2⟩
    · cases e2
    · obtain ⟨a, oe, tl, cls, d, h1, h2, h3⟩ := r.sl.xn j x e2
      exact ⟨a, oe, tl, cls, d, h1, by show (w.σ.set i (some v))[j]? = _; rw [List.getElem?_set_ne (Ne.symm e1)]; exact h2, h3⟩
  · obtain ⟨p1, p2, p3, p4, p5⟩ := r.pr q hq
    refine ⟨p1, p2, p3, p4, fun j es h1 h2 => ?_⟩
    rcases set_get h1 with ⟨e1, e2⟩ | ⟨e1, e2⟩
    · cases e2
    · exact p5 j es e2 ((List.getElem?_set_ne (Ne.symm e1)).symm.trans h2)
/-- slot i is forgotten -/
theorem Rel.clr (r : Rel K pn w) {i : Nat} {v : Option V} : Rel K pn { w with σ := w.σ.set i v, s := w.s.put i .emp } := by
  refine ⟨r.ex, r.le, r.st, ⟨by show (w.σ.set i v).length = (w.s.sl.set i .emp).length; rw [List.length_set, List.length_set]; exact r.sl.len, fun j e q => ?_, fun j ds q => ?_, fun j k ds es a q1 q2 q3 q4 => ?_, fun j x q => ?_⟩, fun q hq => ?_⟩
  · rcases set_get q with ⟨e1, e2⟩ | ⟨e1, e2⟩
    · cases e2
    · obtain ⟨u, h1, h2⟩ := r.sl.imm j e e2
      exact ⟨u, by show (w.σ.set i v)[j]? = _; rw [List.getElem?_set_ne (Ne.symm e1)]; exact h1, h2⟩
  · rcases set_get q with ⟨e1, e2⟩ | ⟨e1, e2⟩
    · cases e2
    · obtain ⟨a, vs, h1, h2⟩ := r.sl.own j ds e2
      exact ⟨a, vs, by show (w.σ.set i v)[j]? = _; rw [List.getElem?_set_ne (Ne.symm e1)]; exact h1, h2⟩
  · rcases set_get q1 with ⟨e1, e2⟩ | ⟨e1, e2⟩
    · cases e2
    · rcases set_get q2 with ⟨e3, e4⟩ | ⟨e3, e4⟩
      · cases e4
      · have z1 : w.σ[j]? = some (some (.ref a)) := by rw [← q3]; exact (List.getElem?_set_ne (Ne.symm e1)).symm
        have z2 : w.σ[k]? = some (some (.ref a)) := by rw [← q4]; exact (List.getElem?_set_ne (Ne.symm e3)).symm
        exact r.sl.dis j k ds es a e2 e4 z1 z2
  · rcases set_get q with ⟨e1, e2⟩ | ⟨e1, e2⟩
    · cases e2
    · obtain ⟨a, oe, tl, cls, d, h1, h2, h3⟩ := r.sl.xn j x e2
      exact ⟨a, oe, tl, cls, d, h1, by show (w.σ.set i v)[j]? = _; rw [List.getElem?_set_ne (Ne.symm e1)]; exact h2, h3⟩
  · obtain ⟨p1, p2, p3, p4, p5⟩ := r.pr q hq
    refine ⟨p1, p2, p3, p4, fun j es h1 h2 => ?_⟩
    rcases set_get h1 with ⟨e1, e2⟩ | ⟨e1, e2⟩
    · cases e2
    · exact p5 j es e2 ((List.getElem?_set_ne (Ne.symm e1)).symm.trans h2)
/-- slot i is given a new list of its own -/
theorem Rel.setOwn (r : Rel K pn w) {i : Nat} {v : V} {ds : List D} (h : AF K w v ds) : Rel K pn { w with σ := w.σ.set i (some v), s := w.s.put i (.own ds) } := by
  obtain ⟨a, vs, rfl, h1, h2, h3, h4, h5, h6, h7⟩ := h
  refine ⟨r.ex, r.le, r.st, ⟨by show (w.σ.set i (some (.ref a))).length = (w.s.sl.set i (.own ds)).length; rw [List.length_set, List.length_set]; exact r.sl.len, fun j e q => ?_, fun j es q => ?_, fun j k es fs b q1 q2 q3 q4 => ?_, fun j x q => ?_⟩, fun q hq => ?_⟩
  · rcases set_get q with ⟨e1, e2⟩ | ⟨e1, e2⟩
    · cases e2
    · obtain ⟨u, z1, z2⟩ := r.sl.imm j e e2
      exact ⟨u, by show (w.σ.set i _)[j]? = _; rw [List.getElem?_set_ne (Ne.symm e1)]; exact z1, z2⟩
  · have hl : j < w.σ.length := by rw [r.sl.len]; exact set_lt q
    rcases set_get q with ⟨e1, e2⟩ | ⟨e1, e2⟩
    · subst e1; cases e2
      exact ⟨a, vs, List.getElem?_set_self hl, h1, h2, h3, h4, h5⟩
    · obtain ⟨b, us, z1, z2⟩ := r.sl.own j es e2
      exact ⟨b, us, by show (w.σ.set i _)[j]? = _; rw [List.getElem?_set_ne (Ne.symm e1)]; exact z1, z2⟩
  · have hj : j < w.σ.length := by rw [r.sl.len]; exact set_lt q1
    have hk : k < w.σ.length := by rw [r.sl.len]; exact set_lt q2
    have g1 : (w.σ.set i (some (V.ref a)))[j]? = some (some (.ref b)) := q3
    have g2 : (w.σ.set i (some (V.ref a)))[k]? = some (some (.ref b)) := q4
    rcases set_get q1 with ⟨e1, e2⟩ | ⟨e1, e2⟩
    · subst e1
      rcases set_get q2 with ⟨e3, e4⟩ | ⟨e3, e4⟩
      · exact e3.symm
      · rw [List.getElem?_set_self hj] at g1; cases g1
        rw [List.getElem?_set_ne (Ne.symm e3)] at g2
        exact absurd g2 (h6 k fs e4)
    · rw [List.getElem?_set_ne (Ne.symm e1)] at g1
      rcases set_get q2 with ⟨e3, e4⟩ | ⟨e3, e4⟩
      · subst e3
        rw [List.getElem?_set_self hk] at g2; cases g2
        exact absurd g1 (h6 j es e2)
      · rw [List.getElem?_set_ne (Ne.symm e3)] at g2
        exact r.sl.dis j k es fs b e2 e4 g1 g2
  · rcases set_get q with ⟨e1, e2⟩ | ⟨e1, e2⟩
    · cases e2
    · obtain ⟨b, oe, tl, cls, d, z1, z2, z3⟩ := r.sl.xn j x e2
      exact ⟨b, oe, tl, cls, d, z1, by show (w.σ.set i _)[j]? = _; rw [List.getElem?_set_ne (Ne.symm e1)]; exact z2, z3⟩
  · obtain ⟨p1, p2, p3, p4, p5⟩ := r.pr q hq
    refine ⟨p1, p2, p3, p4, fun j es z1 z2 => ?_⟩
    have z2 : (w.σ.set i (some (V.ref a)))[j]? = some (some (.ref q.1)) := z2
    have hj : j < w.σ.length := by rw [r.sl.len]; exact set_lt z1
    rcases set_get z1 with ⟨e1, e2⟩ | ⟨e1, e2⟩
    · subst e1
      rw [List.getElem?_set_self hj] at z2
      cases z2
      exact h7 q hq rfl
    · rw [List.getElem?_set_ne (Ne.symm e1)] at z2
      exact p5 j es e2 z2
/-- the list that slot i owns changes -/
theorem Rel.mut (r : Rel K pn w) {i : Nat} {a : Addr} {es ds : List D} {vs : List V} (hi : w.s.sl[i]? = some (.own es)) (ha : w.σ[i]? = some (some (.ref a))) (h : Reps K w.G vs ds) : Rel K pn { w with H := upd w.H a (.lst vs), s := w.s.put i (.own ds) } := by
  obtain ⟨b, us, z1, z2, z3, z4, z5, z6⟩ := r.sl.own i es hi
  rw [ha] at z1
  cases z1
  have hil : i < w.s.sl.length := (List.getElem?_eq_some_iff.mp hi).1
  refine ⟨fun c u q => ?_, ⟨r.le.g, r.le.nw, r.le.fz, fun c u q n => ?_, fun c u q => ?_⟩, ⟨r.st.len, fun n c u q1 q2 => (r.st.at_ n c u q1 q2).mono (.refl _) fun x q => ?_, r.st.nof, r.st.nd⟩, ⟨by show w.σ.length = (w.s.sl.set i (.own ds)).length; rw [List.length_set]; exact r.sl.len, fun j e q => ?_, fun j fs q => ?_, fun j k fs gs c q1 q2 q3 q4 => ?_, fun j x q => ?_⟩, fun q hq => ?_⟩
  · have q : w.G.F c = some u := q
    exact (upd_ne (show c ≠ a from fun e => by rw [e, z4] at q; cases q)).trans (r.ex c u q)
  · have q : w.H0 c = some u := q
    exact (upd_ne (show c ≠ a from fun e => by rw [e, z6] at q; cases q)).trans (r.le.kp c u q n)
  · obtain ⟨u', q'⟩ := r.le.dm c u q
    by_cases e : c = a
    · exact ⟨.lst vs, by subst e; exact upd_same⟩
    · exact ⟨u', (upd_ne e).trans q'⟩
  · have m : c ∈ w.G.ad := List.mem_of_getElem? q1
    exact (upd_ne (show c ≠ a from fun e => z5 (e ▸ m))).trans q
  · rcases set_get q with ⟨e1, e2⟩ | ⟨e1, e2⟩
    · cases e2
    · exact r.sl.imm j e e2
  · rcases set_get q with ⟨e1, e2⟩ | ⟨e1, e2⟩
    · subst e1; cases e2
      exact ⟨a, vs, ha, upd_same, h, z4, z5, z6⟩
    · obtain ⟨c, ws, y1, y2, y3⟩ := r.sl.own j fs e2
      refine ⟨c, ws, y1, ?_, y3⟩
      exact (upd_ne (show c ≠ a from fun e => e1 (r.sl.dis j i fs es a e2 hi (e ▸ y1) ha))).trans y2
  · rcases set_get q1 with ⟨e1, e2⟩ | ⟨e1, e2⟩
    · subst e1
      rcases set_get q2 with ⟨e3, e4⟩ | ⟨e3, e4⟩
      · exact e3.symm
      · exact r.sl.dis j k es gs c hi e4 q3 q4
    · rcases set_get q2 with ⟨e3, e4⟩ | ⟨e3, e4⟩
      · subst e3
        exact r.sl.dis j k fs es c e2 hi q3 q4
      · exact r.sl.dis j k fs gs c e2 e4 q3 q4
  · rcases set_get q with ⟨e1, e2⟩ | ⟨e1, e2⟩
    · cases e2
    · exact r.sl.xn j x e2
  · obtain ⟨p1, p2, p3, p4, p5⟩ := r.pr q hq
    have nq : q.1 ≠ a := fun e => p5 i es hi (e ▸ ha)
    refine ⟨(upd_ne nq).trans p1, p2, p3, p4, fun j fs h1 h2 => ?_⟩
    rcases set_get h1 with ⟨e1, e2⟩ | ⟨e1, e2⟩
    · subst e1; exact p5 j es hi h2
    · exact p5 j fs e2 h2
/-- the list that slot i owns is frozen -/
theorem Rel.froz (r : Rel K pn w) {i : Nat} {es : List D} (hi : w.s.sl[i]? = some (.own es)) : ∃ G' v, w.G.le G' ∧ w.σ[i]? = some (some v) ∧ Rep K G' v (.lst es) ∧ Rel K pn { w with G := G', s := w.s.put i (.imm (.lst es)) } := by
  obtain ⟨a, vs, z1, z2, z3, z4, z5, z6⟩ := r.sl.own i es hi
  have hil : i < w.s.sl.length := (List.getElem?_eq_some_iff.mp hi).1
  have g := gle_upd (o := .lst vs) z4
  have rp : Rep K { w.G with F := upd w.G.F a (.lst vs) } (.ref a) (.lst es) := .lst upd_same (z3.mono g)
  -- first forget the slot, then freeze
  have r1 : Rel K pn { w with s := w.s.put i .emp } := by
    have q := r.clr (i := i) (v := some (.ref a))
    have e : w.σ.set i (some (.ref a)) = w.σ := by
      apply List.ext_getElem?
      intro n
      by_cases hn : n = i
      · subst hn; rw [z1]; exact List.getElem?_set_self (List.getElem?_eq_some_iff.mp z1).1
      · exact List.getElem?_set_ne (Ne.symm hn)
    rw [e] at q
    exact q
  have r2 := Rel.freeze (w := { w with s := w.s.put i .emp }) r1 z2 z4 z5 z6 (fun j fs q1 q2 => by
    rcases set_get q1 with ⟨e1, e2⟩ | ⟨e1, e2⟩
    · cases e2
    · exact e1 (r.sl.dis j i fs es a e2 hi q2 z1)) (fun q hq e => (r.pr q hq).2.2.2.2 i es hi (e ▸ z1))
  have r3 := Rel.set (i := i) r2 rp
  refine ⟨_, .ref a, g, z1, rp, ?_⟩
  have e : w.σ.set i (some (.ref a)) = w.σ := by
    apply List.ext_getElem?
    intro n
    by_cases hn : n = i
    · subst hn; rw [z1]; exact List.getElem?_set_self (List.getElem?_eq_some_iff.mp z1).1
    · exact List.getElem?_set_ne (Ne.symm hn)
  have e2 : (w.s.put i .emp).put i (.imm (.lst es)) = w.s.put i (.imm (.lst es)) := by unfold S.put; simp
  simp only [e, e2] at r3
  exact r3
/-- a cell of the store changes -/
theorem Rel.cell (r : Rel K pn w) {n : Nat} {a : Addr} {o : Ob} {u : HO} (ha : w.G.ad[n]? = some a) (ho : ∀ H', H' a = some u → ObRel K w.G H' a o) : Rel K pn { w with H := upd w.H a u, s := { w.s with st := w.s.st.set n o } } := by
  have m : a ∈ w.G.ad := List.mem_of_getElem? ha
  have hF := r.st.nof a m
  refine ⟨fun c x q => ?_, ⟨r.le.g, r.le.nw, r.le.fz, fun c x q k => ?_, fun c x q => ?_⟩, ⟨by show w.G.ad.length = (w.s.st.set n o).length; rw [List.length_set]; exact r.st.len, fun j c x q1 q2 => ?_, r.st.nof, r.st.nd⟩, ⟨r.sl.len, r.sl.imm, fun i ds q => ?_, r.sl.dis, r.sl.xn⟩, fun q hq => ?_⟩
  · have q : w.G.F c = some x := q
    exact (upd_ne (show c ≠ a from fun e => by rw [e, hF] at q; cases q)).trans (r.ex c x q)
  · have q : w.H0 c = some x := q
    have nc : c ≠ a := fun e => by
      rcases r.le.nw a m with z | z
      · exact k (e ▸ z)
      · rw [e, z] at q; cases q
    exact (upd_ne nc).trans (r.le.kp c x q k)
  · obtain ⟨u', q'⟩ := r.le.dm c x q
    by_cases e : c = a
    · exact ⟨u, by subst e; exact upd_same⟩
    · exact ⟨u', (upd_ne e).trans q'⟩
  · rcases set_get q2 with ⟨e1, e2⟩ | ⟨e1, e2⟩
    · subst e1; subst e2
      have z1 : w.G.ad[j]? = some c := q1
      rw [ha] at z1; cases z1
      exact ho _ upd_same
    · have nc : c ≠ a := fun e => by
        subst e
        obtain ⟨l1, g1⟩ := List.getElem?_eq_some_iff.mp (show w.G.ad[j]? = some c from q1)
        obtain ⟨l2, g2⟩ := List.getElem?_eq_some_iff.mp ha
        exact e1 ((List.getElem_inj r.st.nd).mp (g1.trans g2.symm))
      exact (r.st.at_ j c x q1 e2).mono (.refl _) fun y h => (upd_ne nc).trans h
  · obtain ⟨c, vs, h1, h2, h3, h4, h5, h6⟩ := r.sl.own i ds q
    refine ⟨c, vs, h1, ?_, h3, h4, h5, h6⟩
    exact (upd_ne (show c ≠ a from fun e => h5 (e ▸ m))).trans h2
  · obtain ⟨p1, p2, p3, p4⟩ := r.pr q hq
    exact ⟨(upd_ne (show q.1 ≠ a from fun e => p3.1 (e ▸ m))).trans p1, p2, p3, p4⟩
/-- a new cell -/
theorem Rel.newCell (r : Rel K pn w) {p : Addr} {o : Ob} {u : HO} (hp : w.H p = none) (ho : ∀ G' H', w.G.le G' → H' p = some u → ObRel K G' H' p o) :
    w.G.le { w.G with ad := w.G.ad ++ [p] } ∧ Rel K pn { w with G := { w.G with ad := w.G.ad ++ [p] }, H := upd w.H p u, s := { w.s with st := w.s.st ++ [o] } } ∧ Rep K { w.G with ad := w.G.ad ++ [p] } (.ref p) (.loc w.s.st.length) := by
  have g : w.G.le { w.G with ad := w.G.ad ++ [p] } := ⟨fun _ _ h => h, fun n a h => by
    show (w.G.ad ++ [p])[n]? = some a
    rw [List.getElem?_append_left (List.getElem?_eq_some_iff.mp h).1]
    exact h⟩
  have up : ∀ a x, w.H a = some x → upd w.H p u a = some x := fun a x h => by rw [upd_ne (ne_of_none h hp)]; exact h
  have na := r.noA hp
  refine ⟨g, ⟨fun a x h => up a x (r.ex a x h), ⟨r.le.g.trans g, fun a h => ?_, r.le.fz, fun a x h n => up a x (r.le.kp a x h n), fun a x h => ?_⟩, ⟨?_, fun n a x h1 h2 => ?_, fun a h => ?_, ?_⟩, ⟨r.sl.len, fun i d h => ?_, fun i ds h => ?_, r.sl.dis, fun i x h => ?_⟩, fun q hq => ?_⟩, ?_⟩
  · rcases List.mem_append.mp h with z | z
    · exact r.le.nw a z
    · rw [List.mem_singleton.mp z]; exact .inr (r.no0 hp)
  · obtain ⟨x', h'⟩ := r.le.dm a x h
    exact ⟨x', up a x' h'⟩
  · show (w.G.ad ++ [p]).length = (w.s.st ++ [o]).length
    rw [List.length_append, List.length_append, r.st.len]; rfl
  · have h1 : (w.G.ad ++ [p])[n]? = some a := h1
    have h2 : (w.s.st ++ [o])[n]? = some x := h2
    by_cases hn : n < w.G.ad.length
    · rw [List.getElem?_append_left hn] at h1
      rw [List.getElem?_append_left (by rw [← r.st.len]; exact hn)] at h2
      exact (r.st.at_ n a x h1 h2).mono g (up a)
    · rw [List.getElem?_append_right (by omega)] at h1
      rw [List.getElem?_append_right (by rw [← r.st.len]; omega), ← r.st.len] at h2
      have e : n - w.G.ad.length = 0 := by
        have := (List.getElem?_eq_some_iff.mp h1).1
        simp at this; omega
      rw [e] at h1 h2
      simp at h1 h2
      subst h1 h2
      exact ho _ _ g upd_same
  · rcases List.mem_append.mp h with z | z
    · exact r.st.nof a z
    · rw [List.mem_singleton.mp z]; exact r.noF hp
  · show (w.G.ad ++ [p]).Nodup
    rw [List.nodup_append]
    exact ⟨r.st.nd, by simp, fun a ha b hb e => by rw [List.mem_singleton.mp hb] at e; exact na (e ▸ ha)⟩
  · obtain ⟨v, h1, h2⟩ := r.sl.imm i d h
    exact ⟨v, h1, h2.mono g⟩
  · obtain ⟨a, vs, h1, h2, h3, h4, h5, h6⟩ := r.sl.own i ds h
    refine ⟨a, vs, h1, up a _ h2, h3.mono g, h4, fun m => ?_, h6⟩
    rcases List.mem_append.mp m with z | z
    · exact h5 z
    · rw [List.mem_singleton.mp z, hp] at h2; cases h2
  · obtain ⟨a, oe, tl, cls, d, h1, h2, h3, h4⟩ := r.sl.xn i x h
    exact ⟨a, oe, tl, cls, d, h1, h2, h3, h4.mono g⟩
  · obtain ⟨p1, p2, p3, p4⟩ := r.pr q hq
    refine ⟨up _ _ p1, p2, ⟨fun m => ?_, p3.2⟩, p4⟩
    rcases List.mem_append.mp m with z | z
    · exact p3.1 z
    · rw [List.mem_singleton.mp z, hp] at p1; cases p1
  · refine .loc ?_
    show (w.G.ad ++ [p])[w.s.st.length]? = some p
    rw [← r.st.len]
    simp
end
end DL

namespace DL
open PySem PySem.Spec L2

/-! ### expressions -/
def lift (o : Option D) : ME := match o with
  | some d => ret d
  | none => stk
/-- one that stands in a slot; a list that the slot owns is frozen by it -/
def mVar (i : Nat) : ME := fun s => match s.sl[i]? with
  | some (.imm d) => .ok d s
  | some (.own ds) => .ok (.lst ds) (s.put i (.imm (.lst ds)))
  | _ => .stuck
def mC (d : D) : ME := ret d
section
variable {X : Cx} {W : WX}
theorem je_var (i : Nat) {x : Str} {pos : Pos} (hN : X.N[i]? = some x := by rfl) (hv : Vis X.env.scope x := by first | exact Or.inl rfl | exact Or.inr (Or.inl rfl) | exact Or.inr (Or.inr rfl)) (hd : (x == ("__debug__" : Str)) = false := by decide)
    (hcd : (x == ("__classdict__" : Str)) = false := by decide) : JE X W (.Name x pos) (mVar i) := by
  refine PE.imp (pv i hN hv hd hcd) fun σ H Q h => ?_
  obtain ⟨w, rfl, rfl, r, h⟩ := h
  unfold mVar at h
  split at h
  · rename_i d e
    obtain ⟨v, h1, h2⟩ := r.sl.imm i d e
    exact ⟨v, h1, h w.G v w.H (.refl _) r h2⟩
  · rename_i ds e
    obtain ⟨G', v, g, h1, h2, h3⟩ := r.froz e
    exact ⟨v, h1, h G' v w.H g h3 h2⟩
  · exact h.elim
theorem je_c {e : Expr} {v : V} {d : D} (hp : PE X e (tC v)) (hr : ∀ G, Rep X.K G v d) : JE X W e (mC d) := by
  refine PE.imp hp fun σ H Q h => ?_
  obtain ⟨w, rfl, rfl, r, h⟩ := h
  exact h w.G v w.H (.refl _) r (hr _)
theorem je_int {i j pos} : JE X W (.Constant (.int i) j pos) (mC (.int i)) := je_c pe_int fun _ => .int _
theorem je_bl {b j pos} : JE X W (.Constant (.bool b) j pos) (mC (.bl b)) := je_c pe_bl fun _ => .bl _
theorem je_non {j pos} : JE X W (.Constant .none j pos) (mC .non) := je_c pe_non fun _ => .non
theorem je_str {x j pos} : JE X W (.Constant (.str x) j pos) (mC (.str x)) := je_c pe_str fun _ => .str _
/-- a new list, frozen -/
def mFz (m : MA) : ME := bnd m fun ds => ret (.lst ds)
theorem je_fz {e : Expr} {m : MA} (h : JF X W e m) : JE X W e (mFz m) := by
  refine PE.imp h fun σ H Q h => ?_
  obtain ⟨w, rfl, rfl, r, h⟩ := h
  refine run r h fun ds s' G' v H' g r' a h' => ?_
  obtain ⟨G2, g2, r2, p⟩ := AF.rep r' a
  exact h' G2 v H' g2 r2 p

/-! arguments -/
def mNil : MA := ret []
def mCons (m : ME) (ms : MA) : MA := bnd m fun d => bnd ms fun ds => ret (d :: ds)
theorem bnd_ok {α β : Type} {m : S → R α} {k : α → S → R β} {s s' : S} {b : β} (h : bnd m k s = .ok b s') : ∃ a s1, m s = .ok a s1 ∧ k a s1 = .ok b s' := by
  unfold bnd at h
  cases hm : m s with
  | ok a s1 => rw [hm] at h; exact ⟨a, s1, rfl, h⟩
  | exc x s1 => rw [hm] at h; cases h
  | stuck => rw [hm] at h; cases h
theorem ja_nil : JA X W [] mNil := by
  refine ⟨PA.imp pa_nil fun σ H Q h => ?_, fun s as s' h => ?_⟩
  · obtain ⟨w, rfl, rfl, r, h⟩ := h
    exact fin r h .nil
  · cases h; rfl
theorem ja_cons {e : Expr} {es : List Expr} {m : ME} {ms : MA} (he : JE X W e m) (hs : JA X W es ms) (hst : starEach (e :: es) X.env = (false, eval e X.env) :: starEach es X.env := by rfl) : JA X W (e :: es) (mCons m ms) := by
  refine ⟨PA.imp (pa_cons he hs.pa hst) fun σ H Q h => ?_, fun s as s' h => ?_⟩
  · obtain ⟨w, rfl, rfl, r, h⟩ := h
    refine run r h fun d s' G' v H' g r' a h' => ?_
    refine run r' h' fun ds s2 G2 vs H2 g2 r2 a2 h2 => ?_
    exact fin r2 h2 (.cons (a.mono g2) a2)
  · obtain ⟨a, s1, h1, h2⟩ := bnd_ok h
    obtain ⟨b, s2, h3, h4⟩ := bnd_ok h2
    cases h4
    rw [List.length_cons, List.length_cons, hs.len _ _ _ h3]
/-- displays -/
def few (n : Nat) : Prop := n ≤ 1000000
instance (n : Nat) : Decidable (few n) := inferInstanceAs (Decidable (n ≤ 1000000))
theorem few.line {n : Nat} (h : few n) : n ≤ sizeLine := Nat.le_trans h (by rw [sizeLine_eq]; decide)
def mTup (m : MA) : ME := bnd m fun ds s => if few ds.length then .ok (.tup ds) s else .stuck
theorem je_tup {es : List Expr} {m : MA} {x1} {pos : Pos} (h : JA X W es m) : JE X W (.Tuple es x1 pos) (mTup m) := by
  refine PE.imp (pe_tup h.pa) fun σ H Q h => ?_
  obtain ⟨w, rfl, rfl, r, h⟩ := h
  refine run r h fun ds s' G' vs H' g r' a h' => ?_
  split at h'
  · rename_i hf
    refine ⟨by rw [Reps.length a]; exact hf.line, fun p hp => ?_⟩
    have hn : G'.F p = none := r'.noF hp
    exact h' _ _ _ (gle_upd hn) (r'.new hp) (.tup upd_same (a.mono (gle_upd hn)))
  · exact h'.elim
def mLst (m : MA) : MA := bnd m fun ds s => if few ds.length then .ok ds s else .stuck
theorem jf_lst {es : List Expr} {m : MA} {pos : Pos} (h : JA X W es m) : JF X W (.List es pos) (mLst m) := by
  refine PE.imp (pe_lst h.pa) fun σ H Q h => ?_
  obtain ⟨w, rfl, rfl, r, h⟩ := h
  refine run r h fun ds s' G' vs H' g r' a h' => ?_
  split at h'
  · rename_i hf
    refine ⟨by rw [Reps.length a]; exact hf.line, fun p hp => ?_⟩
    exact h' _ _ _ (.refl _) (r'.alloc hp) (AF.new r' hp a)
  · exact h'.elim

/-! operators -/
/-- r does on values what f does on data -/
def R2Ok (K : PySem.W.Frag) (r : R2) (f : D → D → Option D) : Prop := ∀ (pn : List (Addr × Obj)) (w : Wd) (x y : V) (d e z : D) (Q : VK), Rel K pn w → Rep K w.G x d → Rep K w.G y e → f d e = some z →
  (∀ G' v H', w.G.le G' → Rel K pn { w with G := G', H := H' } → Rep K G' v z → Q v H') → r x y w.H Q
def R2OkF (K : PySem.W.Frag) (r : R2) (f : D → D → Option (List D)) : Prop := ∀ (pn : List (Addr × Obj)) (w : Wd) (x y : V) (d e : D) (z : List D) (Q : VK), Rel K pn w → Rep K w.G x d → Rep K w.G y e → f d e = some z →
  (∀ G' v H', w.G.le G' → Rel K pn { w with G := G', H := H' } → AF K { w with G := G', H := H' } v z → Q v H') → r x y w.H Q
def mBin (f : D → D → Option D) (a b : ME) : ME := bnd a fun d => bnd b fun e => lift (f d e)
def mBinF (f : D → D → Option (List D)) (a b : ME) : MA := bnd a fun d => bnd b fun e s => match f d e with
  | some z => .ok z s
  | none => .stuck
theorem r2_run {r : R2} {f : D → D → Option D} {a b : ME} {σ : L2.St} {H : Hp} {Q : VK} (hr : R2Ok X.K r f) (h : tG X.K X.pn W (AR X.K) (mBin f a b) σ H Q) : tOp r (tG X.K X.pn W (AR X.K) a) (tG X.K X.pn W (AR X.K) b) σ H Q := by
  obtain ⟨w, rfl, rfl, r0, h⟩ := h
  refine run r0 h fun d s' G' v H' g r' p h' => ?_
  refine run r' h' fun e s2 G2 u H2 g2 r2 p2 h2 => ?_
  cases hz : f d e with
  | some z =>
    rw [hz] at h2
    exact hr X.pn _ v u d e z Q r2 (p.mono g2) p2 hz fun G3 y H3 g3 r3 p3 => h2 G3 y H3 g3 r3 p3
  | none =>
    rw [hz] at h2
    exact h2.elim
theorem r2_runF {r : R2} {f : D → D → Option (List D)} {a b : ME} {σ : L2.St} {H : Hp} {Q : VK} (hr : R2OkF X.K r f) (h : tG X.K X.pn W (AF X.K) (mBinF f a b) σ H Q) : tOp r (tG X.K X.pn W (AR X.K) a) (tG X.K X.pn W (AR X.K) b) σ H Q := by
  obtain ⟨w, rfl, rfl, r0, h⟩ := h
  refine run r0 h fun d s' G' v H' g r' p h' => ?_
  refine run r' h' fun e s2 G2 u H2 g2 r2 p2 h2 => ?_
  cases hz : f d e with
  | some z =>
    rw [hz] at h2
    exact hr X.pn _ v u d e z Q r2 (p.mono g2) p2 hz fun G3 y H3 g3 r3 p3 => h2 G3 y H3 g3 r3 p3
  | none =>
    rw [hz] at h2
    exact h2.elim
theorem je_bin {op : Operator} {r : R2} {f : D → D → Option D} {a b : Expr} {ma mb : ME} {pos : Pos} (ho : OpR X (binaryOp op) r) (hr : R2Ok X.K r f) (ha : JE X W a ma) (hb : JE X W b mb) : JE X W (.BinOp a op b pos) (mBin f ma mb) :=
  PE.imp (pe_op ho ha hb) fun _ _ _ h => r2_run hr h
theorem jf_bin {op : Operator} {r : R2} {f : D → D → Option (List D)} {a b : Expr} {ma mb : ME} {pos : Pos} (ho : OpR X (binaryOp op) r) (hr : R2OkF X.K r f) (ha : JE X W a ma) (hb : JE X W b mb) : JF X W (.BinOp a op b pos) (mBinF f ma mb) :=
  PE.imp (pe_op ho ha hb) fun _ _ _ h => r2_runF hr h
theorem je_cmp {op : CmpOp} {r : R2} {f : D → D → Option D} {a b : Expr} {ma mb : ME} {pos : Pos} (ho : OpR X (compareOp op) r) (hr : R2Ok X.K r f) (ha : JE X W a ma) (hb : JE X W b mb) (hm : behindInMarks op b = false) : JE X W (.Compare a [op] [b] pos) (mBin f ma mb) :=
  PE.imp (pe_cmpR ho ha hb hm) fun _ _ _ h => r2_run hr h
end
theorem R2Ok.or {K : PySem.W.Frag} {r r' : R2} {f f' : D → D → Option D} (h : R2Ok K r f) (h' : R2Ok K r' f') : R2Ok K (fun x y H Q => r x y H Q ∨ r' x y H Q) (fun d e => (f d e).orElse fun _ => f' d e) := by
  intro pn w x y d e z Q r0 p1 p2 hz k
  cases hf : f d e with
  | some z' =>
    have hz' : z' = z := by simpa [hf] using hz
    subst hz'
    exact .inl (h pn w x y d e z' Q r0 p1 p2 hf k)
  | none =>
    exact .inr (h' pn w x y d e z Q r0 p1 p2 (by simpa [hf] using hz) k)
/-- ints -/
def intF (g : Int → Int → Option D) : D → D → Option D
  | .int i, .int j => g i j
  | _, _ => none
theorem r2_I0 {K : PySem.W.Frag} {g : Int → Int → V} {g' : Int → Int → D} (h : ∀ i j G, Rep K G (g i j) (g' i j)) : R2Ok K (rI0 g) (intF fun i j => some (g' i j)) := by
  intro pn w x y d e z Q r p1 p2 hz k
  unfold intF at hz
  split at hz
  · cases p1; cases p2; cases hz
    exact ⟨_, _, rfl, rfl, k _ _ _ (.refl _) r (h _ _ _)⟩
  · cases hz
theorem r2_I {K : PySem.W.Frag} {C : Int → Int → Prop} {g : Int → Int → V} {g' : Int → Int → Option D} (h : ∀ i j z, g' i j = some z → C i j ∧ ∀ G, Rep K G (g i j) z) : R2Ok K (rI C g) (intF g') := by
  intro pn w x y d e z Q r p1 p2 hz k
  unfold intF at hz
  split at hz
  · cases p1; cases p2
    obtain ⟨hc, hp⟩ := h _ _ _ hz
    exact ⟨_, _, rfl, rfl, hc, k _ _ _ (.refl _) r (hp _)⟩
  · cases hz
section
variable {K : PySem.W.Frag}
/-! the operators of ints -/
def iAdd := intF fun i j => some (.int (i + j))
def iSub := intF fun i j => some (.int (i - j))
/-- within a million bits -/
def bits (i : Int) : Nat := i.natAbs.log2
def iMul := intF fun i j => if bits i + bits j < 1000000 then some (.int (i * j)) else none
def iDiv := intF fun i j => if 0 < j ∧ bits j < 9000 then some (.int (i / j)) else none
def iMod := intF fun i j => if 0 < j then some (.int (i % j)) else none
def iLt := intF fun i j => some (.bl (decide (i < j)))
def iLe := intF fun i j => some (.bl (decide (i ≤ j)))
def iGt := intF fun i j => some (.bl (decide (j < i)))
def iGe := intF fun i j => some (.bl (decide (j ≤ i)))
def iPow := intF fun i j => if 0 ≤ j ∧ j ≤ 1000000 ∧ i.natAbs < 2 ^ 64 then some (.int (i ^ j.toNat)) else none
theorem k_add : R2Ok K (rI0 fun i j => .int (i + j)) iAdd := r2_I0 fun _ _ _ => .int _
theorem k_sub : R2Ok K (rI0 fun i j => .int (i - j)) iSub := r2_I0 fun _ _ _ => .int _
theorem k_mul : R2Ok K (rI CMulW fun i j => .int (i * j)) iMul := r2_I fun i j z h => by
  split at h
  · rename_i c; cases h; exact ⟨c, fun _ => .int _⟩
  · cases h
theorem k_div : R2Ok K (rI CDivW fun i j => .int (i / j)) iDiv := r2_I fun i j z h => by
  split at h
  · rename_i c; cases h; exact ⟨c, fun _ => .int _⟩
  · cases h
theorem k_mod : R2Ok K (rI (fun _ j => 0 < j) fun i j => .int (i % j)) iMod := r2_I fun i j z h => by
  split at h
  · rename_i c; cases h; exact ⟨c, fun _ => .int _⟩
  · cases h
theorem k_pow : R2Ok K (rI CPow fun i j => .int (i ^ j.toNat)) iPow := r2_I fun i j z h => by
  split at h
  · rename_i c; cases h; exact ⟨c, fun _ => .int _⟩
  · cases h
theorem k_lt : R2Ok K (rI0 fun i j => .bl (decide (i < j))) iLt := r2_I0 fun _ _ _ => .bl _
theorem k_le : R2Ok K (rI0 fun i j => .bl (decide (i ≤ j))) iLe := r2_I0 fun _ _ _ => .bl _
theorem k_gt : R2Ok K (rI0 fun i j => .bl (decide (j < i))) iGt := r2_I0 fun _ _ _ => .bl _
theorem k_ge : R2Ok K (rI0 fun i j => .bl (decide (j ≤ i))) iGe := r2_I0 fun _ _ _ => .bl _
end

/-! ### truth, tests -/
def tru : D → Option Bool
  | .non => some false
  | .bl b => some b
  | .int i => some (i != 0)
  | .str x => if few x.length then some ((x.length : Int) != 0) else none
  | .tup xs => some (!xs.isEmpty)
  | .lst xs => some (!xs.isEmpty)
  | .nod => some false
  | _ => none
theorem Reps.empty {K : PySem.W.Frag} {G : Gh} {vs : List V} {ds : List D} (h : Reps K G vs ds) : vs.isEmpty = ds.isEmpty := by cases h <;> rfl
theorem tru_of {K : PySem.W.Frag} {pn : List (Addr × Obj)} {w : Wd} {x : V} {d : D} {b : Bool} (r : Rel K pn w) (p : Rep K w.G x d) (h : tru d = some b) : TruV K x w.H b := by
  cases p with
  | non => cases h; rfl
  | bl c => cases h; rfl
  | int i => cases h; rfl
  | str z =>
    have h : (if few z.length then some ((z.length : Int) != 0) else none) = some b := h
    by_cases hf : few z.length
    · rw [if_pos hf] at h; cases h; exact ⟨hf.line, rfl⟩
    · rw [if_neg hf] at h; cases h
  | tup hs q => cases h; exact .inr (.inl ⟨_, tqT r.ex hs, by rw [q.empty]⟩)
  | lst hs q => cases h; exact .inl ⟨_, SqL.of (r.ex _ _ hs), by rw [q.empty]⟩
  | kl hs q => cases h
  | nod hs =>
    cases h
    exact .inr (.inr ⟨[], r.ex _ _ hs, rfl⟩)
  | loc hs => cases h
  | ins hs q => cases h
end DL

namespace DL
open PySem PySem.Spec L2

/-! ### == -/
/-- things that are not two tuples, not two lists -/
def sc : D → D → Option Bool
  | .non, .non => some true
  | .bl a, .bl b => some (a == b)
  | .int a, .int b => some (a == b)
  | .str a, .str b => some (a == b)
  | .bl a, .int b => some ((if a then 1 else 0) == b)
  | .int a, .bl b => some (a == (if b then 1 else 0))
  | .non, .bl _ => some false | .non, .int _ => some false | .non, .str _ => some false | .non, .tup _ => some false | .non, .lst _ => some false
  | .bl _, .non => some false | .bl _, .str _ => some false | .bl _, .tup _ => some false | .bl _, .lst _ => some false
  | .int _, .non => some false | .int _, .str _ => some false | .int _, .tup _ => some false | .int _, .lst _ => some false
  | .str _, .non => some false | .str _, .bl _ => some false | .str _, .int _ => some false | .str _, .tup _ => some false | .str _, .lst _ => some false
  | .tup _, .non => some false | .tup _, .bl _ => some false | .tup _, .int _ => some false | .tup _, .str _ => some false | .tup _, .lst _ => some false
  | .lst _, .non => some false | .lst _, .bl _ => some false | .lst _, .int _ => some false | .lst _, .str _ => some false | .lst _, .tup _ => some false
  | _, _ => none
def deqs (f : D → D → Option Bool) : List D → List D → Option Bool
  | [], [] => some true
  | x :: xs, y :: ys => match f x y, deqs f xs ys with
    | some b, some c => some (b && c)
    | _, _ => none
  | _, _ => some false
def deq : Nat → D → D → Option Bool
  | n + 1, .tup xs, .tup ys => deqs (deq n) xs ys
  | n + 1, .lst xs, .lst ys => deqs (deq n) xs ys
  | _, .nod, .nod => some true
  | _, d, e => sc d e
theorem deqs_all {f : D → D → Option Bool} : ∀ {xs ys : List D} {b : Bool}, deqs f xs ys = some b → (∀ (j : Nat) x y, xs[j]? = some x → ys[j]? = some y → ∃ c, f x y = some c) ∧ b = (((List.range (min xs.length ys.length)).all fun j => (match xs[j]?, ys[j]? with | some x, some y => (f x y).getD false | _, _ => false)) && xs.length == ys.length)
  | [], [], b, h => by cases h; exact ⟨fun j x y h => by simp at h, by simp⟩
  | [], y :: ys, b, h => by cases h; exact ⟨fun j x y h => by simp at h, by simp⟩
  | x :: xs, [], b, h => by cases h; exact ⟨fun j x y _ h => by simp at h, by simp⟩
  | x :: xs, y :: ys, b, h => by
    unfold deqs at h
    cases h1 : f x y with
    | none => rw [h1] at h; cases h
    | some c =>
      cases h2 : deqs f xs ys with
      | none => rw [h1, h2] at h; cases h
      | some c2 =>
        rw [h1, h2] at h
        cases h
        obtain ⟨g1, g2⟩ := deqs_all h2
        refine ⟨fun j a b ha hb => ?_, ?_⟩
        · cases j with
          | zero => simp at ha hb; subst ha hb; exact ⟨c, h1⟩
          | succ j => exact g1 j a b (by simpa using ha) (by simpa using hb)
        · rw [g2]
          have e : min (x :: xs).length (y :: ys).length = min xs.length ys.length + 1 := by simp only [List.length_cons]; omega
          rw [e, List.range_succ_eq_map, List.all_cons, List.all_map]
          simp only [List.getElem?_cons_zero, h1, Option.getD_some, List.length_cons, Bool.and_assoc]
          congr 2
          simp
section
variable {X : Cx} {pins : List (Addr × Obj)} {σ : L2.St} {s : Shared} {pn : List (Addr × Obj)} {w : Wd}
theorem rep_tup (I : Inv X pins σ w.H s) (r : Rel X.K pn w) {x : V} {u : Value} {ds : List D} (p : Rep X.K w.G x (.tup ds)) (q : RelV x u) : ∃ a vs its, u = .ref a ∧ x = .ref a ∧ Reps X.K w.G vs ds ∧ Vals vs its ∧ s.heap.IsTuple a its.toArray := by
  cases p with
  | tup h rs =>
    cases q
    obtain ⟨its, rv, ht, hz⟩ := I.tuple (tqT r.ex h)
    exact ⟨_, _, its, rfl, rfl, rs, rv, ht⟩
theorem rep_lst (I : Inv X pins σ w.H s) (r : Rel X.K pn w) {x : V} {u : Value} {ds : List D} (p : Rep X.K w.G x (.lst ds)) (q : RelV x u) : ∃ a vs its, u = .ref a ∧ x = .ref a ∧ Reps X.K w.G vs ds ∧ Vals vs its ∧ s.heap.IsList a its.toArray := by
  cases p with
  | lst h rs =>
    cases q
    obtain ⟨its, rv, ht, hz⟩ := I.list (SqL.of (r.ex _ _ h))
    exact ⟨_, _, its, rfl, rfl, rs, rv, ht.isList⟩
theorem sc_rc (I : Inv X pins σ w.H s) (r : Rel X.K pn w) {x y : V} {u v : Value} {d e : D} {b : Bool} (h : sc d e = some b) (p1 : Rep X.K w.G x d) (p2 : Rep X.K w.G y e) (q1 : RelV x u) (q2 : RelV y v) {A : Around} (hu : A.units < cLine) :
    SeqAt.RcAt A s u v b ∧ SeqAt.EqAt A s u v b := by
  unfold sc at h
  split at h <;> (try cases h)
  · cases p1; cases p2; cases q1; cases q2; exact ⟨.none_none, SeqAt.EqAt.same _⟩
  · cases p1; cases p2; cases q1; cases q2; exact ⟨.bool_bool _ _, .bool_bool _ _⟩
  · cases p1; cases p2; obtain ⟨t, rfl⟩ := q1; obtain ⟨t', rfl⟩ := q2; exact ⟨.int_int _ _ _ _, .int_int _ _ _ _⟩
  · cases p1; cases p2; obtain ⟨t, rfl⟩ := q1; obtain ⟨t', rfl⟩ := q2; exact ⟨.str_str _ _ _ _, .str_str _ _ _ _⟩
  · cases p1; cases p2; cases q1; obtain ⟨t', rfl⟩ := q2; exact ⟨.bool_int _ _ _, .bool_int _ _ _⟩
  · cases p1; cases p2; obtain ⟨t, rfl⟩ := q1; cases q2; exact ⟨.int_bool _ _ _, .int_bool _ _ _⟩
  · cases p1; cases p2; cases q1; cases q2; exact ⟨.none_bool _, .none_bool _⟩
  · cases p1; cases p2; cases q1; obtain ⟨t', rfl⟩ := q2; exact ⟨.none_int _ _, .none_int _ _⟩
  · cases p1; cases p2; cases q1; obtain ⟨t', rfl⟩ := q2; exact ⟨.none_str _ _, .none_str _ _⟩
  · obtain ⟨a, vs, its, rfl, rfl, _, _, hl⟩ := rep_tup I r p2 q2; cases p1; cases q1; exact ⟨.none_tuple hl hu, .none_tuple hl hu⟩
  · obtain ⟨a, vs, its, rfl, rfl, _, _, hl⟩ := rep_lst I r p2 q2; cases p1; cases q1; exact ⟨.none_list hl hu, .none_list hl hu⟩
  · cases p1; cases p2; cases q1; cases q2; exact ⟨.bool_none _, .bool_none _⟩
  · cases p1; cases p2; cases q1; obtain ⟨t', rfl⟩ := q2; exact ⟨.bool_str _ _ _, .bool_str _ _ _⟩
  · obtain ⟨a, vs, its, rfl, rfl, _, _, hl⟩ := rep_tup I r p2 q2; cases p1; cases q1; exact ⟨.bool_tuple _ hl hu, .bool_tuple _ hl hu⟩
  · obtain ⟨a, vs, its, rfl, rfl, _, _, hl⟩ := rep_lst I r p2 q2; cases p1; cases q1; exact ⟨.bool_list _ hl hu, .bool_list _ hl hu⟩
  · cases p1; cases p2; obtain ⟨t, rfl⟩ := q1; cases q2; exact ⟨.int_none _ _, .int_none _ _⟩
  · cases p1; cases p2; obtain ⟨t, rfl⟩ := q1; obtain ⟨t', rfl⟩ := q2; exact ⟨.int_str _ _ _ _, .int_str _ _ _ _⟩
  · obtain ⟨a, vs, its, rfl, rfl, _, _, hl⟩ := rep_tup I r p2 q2; cases p1; obtain ⟨t, rfl⟩ := q1; exact ⟨.int_tuple _ _ hl hu, .int_tuple _ _ hl hu⟩
  · obtain ⟨a, vs, its, rfl, rfl, _, _, hl⟩ := rep_lst I r p2 q2; cases p1; obtain ⟨t, rfl⟩ := q1; exact ⟨.int_list _ _ hl hu, .int_list _ _ hl hu⟩
  · cases p1; cases p2; obtain ⟨t, rfl⟩ := q1; cases q2; exact ⟨.str_none _ _, .str_none _ _⟩
  · cases p1; cases p2; obtain ⟨t, rfl⟩ := q1; cases q2; exact ⟨.str_bool _ _ _, .str_bool _ _ _⟩
  · cases p1; cases p2; obtain ⟨t, rfl⟩ := q1; obtain ⟨t', rfl⟩ := q2; exact ⟨.str_int _ _ _ _, .str_int _ _ _ _⟩
  · obtain ⟨a, vs, its, rfl, rfl, _, _, hl⟩ := rep_tup I r p2 q2; cases p1; obtain ⟨t, rfl⟩ := q1; exact ⟨.str_tuple _ _ hl hu, .str_tuple _ _ hl hu⟩
  · obtain ⟨a, vs, its, rfl, rfl, _, _, hl⟩ := rep_lst I r p2 q2; cases p1; obtain ⟨t, rfl⟩ := q1; exact ⟨.str_list _ _ hl hu, .str_list _ _ hl hu⟩
  · obtain ⟨a, vs, its, rfl, rfl, _, _, hl⟩ := rep_tup I r p1 q1; cases p2; cases q2; exact ⟨.tuple_none hl hu, .tuple_none hl hu⟩
  · obtain ⟨a, vs, its, rfl, rfl, _, _, hl⟩ := rep_tup I r p1 q1; cases p2; cases q2; exact ⟨.tuple_bool _ hl hu, .tuple_bool _ hl hu⟩
  · obtain ⟨a, vs, its, rfl, rfl, _, _, hl⟩ := rep_tup I r p1 q1; cases p2; obtain ⟨t, rfl⟩ := q2; exact ⟨.tuple_int _ _ hl hu, .tuple_int _ _ hl hu⟩
  · obtain ⟨a, vs, its, rfl, rfl, _, _, hl⟩ := rep_tup I r p1 q1; cases p2; obtain ⟨t, rfl⟩ := q2; exact ⟨.tuple_str _ _ hl hu, .tuple_str _ _ hl hu⟩
  · obtain ⟨a, vs, its, rfl, rfl, _, _, hl⟩ := rep_tup I r p1 q1; obtain ⟨a', vs', its', rfl, rfl, _, _, hl'⟩ := rep_lst I r p2 q2; exact ⟨.tuple_list hl hl' hu, .tuple_list hl hl' hu⟩
  · obtain ⟨a, vs, its, rfl, rfl, _, _, hl⟩ := rep_lst I r p1 q1; cases p2; cases q2; exact ⟨.list_none hl hu, .list_none hl hu⟩
  · obtain ⟨a, vs, its, rfl, rfl, _, _, hl⟩ := rep_lst I r p1 q1; cases p2; cases q2; exact ⟨.list_bool _ hl hu, .list_bool _ hl hu⟩
  · obtain ⟨a, vs, its, rfl, rfl, _, _, hl⟩ := rep_lst I r p1 q1; cases p2; obtain ⟨t, rfl⟩ := q2; exact ⟨.list_int _ _ hl hu, .list_int _ _ hl hu⟩
  · obtain ⟨a, vs, its, rfl, rfl, _, _, hl⟩ := rep_lst I r p1 q1; cases p2; obtain ⟨t, rfl⟩ := q2; exact ⟨.list_str _ _ hl hu, .list_str _ _ hl hu⟩
  · obtain ⟨a, vs, its, rfl, rfl, _, _, hl⟩ := rep_lst I r p1 q1; obtain ⟨a', vs', its', rfl, rfl, _, _, hl'⟩ := rep_tup I r p2 q2; exact ⟨.list_tuple hl hl' hu, .list_tuple hl hl' hu⟩
end
end DL

namespace DL
open PySem PySem.Spec L2
theorem deq_tup {n : Nat} {xs ys : List D} : deq (n + 1) (.tup xs) (.tup ys) = deqs (deq n) xs ys := rfl
theorem deq_lst {n : Nat} {xs ys : List D} : deq (n + 1) (.lst xs) (.lst ys) = deqs (deq n) xs ys := rfl
theorem deq_cases {n : Nat} {d e : D} {b : Bool} (h : deq n d e = some b) : (∃ m xs ys, n = m + 1 ∧ d = .tup xs ∧ e = .tup ys ∧ deqs (deq m) xs ys = some b) ∨ (∃ m xs ys, n = m + 1 ∧ d = .lst xs ∧ e = .lst ys ∧ deqs (deq m) xs ys = some b) ∨ (d = .nod ∧ e = .nod ∧ b = true) ∨ sc d e = some b := by
  unfold deq at h
  split at h
  · exact .inl ⟨_, _, _, rfl, rfl, rfl, h⟩
  · exact .inr (.inl ⟨_, _, _, rfl, rfl, rfl, h⟩)
  · cases h; exact .inr (.inr (.inl ⟨rfl, rfl, rfl⟩))
  · exact .inr (.inr (.inr h))
section
variable {X : Cx} {pins : List (Addr × Obj)} {σ : L2.St} {s : Shared} {pn : List (Addr × Obj)} {w : Wd}
theorem not_both (I : Inv X pins σ w.H s) (r : Rel X.K pn w) {x : V} {ds es : List D} (p : Rep X.K w.G x (.tup ds)) (q : Rep X.K w.G x (.lst es)) : False := by
  cases p with
  | tup h rs =>
    cases q with
    | lst h' rs' =>
      obtain ⟨its, rv, ht, hz⟩ := I.tuple (tqT r.ex h)
      obtain ⟨its', rv', ht', hz'⟩ := I.list (SqL.of (r.ex _ _ h'))
      exact SeqAt.ne_of_list_tuple ht'.isList ht rfl
theorem sc_self (I : Inv X pins σ w.H s) (r : Rel X.K pn w) {x : V} {d e : D} {b : Bool} (h : sc d e = some b) (p1 : Rep X.K w.G x d) (p2 : Rep X.K w.G x e) : b = true := by
  unfold sc at h
  split at h <;> first
    | (cases h; done)
    | (exact (not_both I r p1 p2).elim)
    | (exact (not_both I r p2 p1).elim)
    | (cases p1 <;> cases p2 <;> cases h <;> (try simp))
theorem deqs_self {f : D → D → Option Bool} {G : Gh} {K : PySem.W.Frag} (hf : ∀ x d e b, f d e = some b → Rep K G x d → Rep K G x e → b = true) : ∀ {vs : List V} {ds es : List D} {b : Bool}, deqs f ds es = some b → Reps K G vs ds → Reps K G vs es → b = true
  | _, _, _, _, h, .nil, .nil => by cases h; rfl
  | _ :: _, d :: ds, d' :: ds', b, h, .cons p1 r1, .cons p2 r2 => by
    unfold deqs at h
    cases h1 : f d d' with
    | none => rw [h1] at h; cases h
    | some c =>
      cases h2 : deqs f ds ds' with
      | none => rw [h1, h2] at h; cases h
      | some c2 =>
        rw [h1, h2] at h
        cases h
        rw [hf _ _ _ _ h1 p1 p2, deqs_self hf h2 r1 r2]; rfl
theorem deq_self (I : Inv X pins σ w.H s) (r : Rel X.K pn w) : ∀ (n : Nat) (x : V) (d e : D) (b : Bool), deq n d e = some b → Rep X.K w.G x d → Rep X.K w.G x e → b = true := by
  intro n
  induction n with
  | zero =>
    intro x d e b h p1 p2
    rcases deq_cases h with ⟨m, xs, ys, hn, _⟩ | ⟨m, xs, ys, hn, _⟩ | ⟨rfl, rfl, rfl⟩ | hs
    · cases hn
    · cases hn
    · rfl
    · exact sc_self I r hs p1 p2
  | succ n ih =>
    intro x d e b h p1 p2
    rcases deq_cases h with ⟨m, xs, ys, hn, rfl, rfl, hs⟩ | ⟨m, xs, ys, hn, rfl, rfl, hs⟩ | ⟨rfl, rfl, rfl⟩ | hs
    · cases hn
      cases p1 with
      | tup h1 r1 =>
        cases p2 with
        | tup h2 r2 =>
          have e := I.tuple_inj (tqT r.ex h1) (tqT r.ex h2)
          subst e
          exact deqs_self ih hs r1 r2
    · cases hn
      cases p1 with
      | lst h1 r1 =>
        cases p2 with
        | lst h2 r2 =>
          have e := I.list_inj (SqL.of (r.ex _ _ h1)) (SqL.of (r.ex _ _ h2))
          subst e
          exact deqs_self ih hs r1 r2
    · rfl
    · exact sc_self I r hs p1 p2
theorem vals_get {vs : List V} {its : List Value} {j : Nat} {u : Value} (r : Vals vs its) (h : its[j]? = some u) : ∃ v, vs[j]? = some v ∧ RelV v u := by
  have hl : j < vs.length := by rw [r.length]; exact (List.getElem?_eq_some_iff.mp h).1
  obtain ⟨u', h1, h2⟩ := r.get (List.getElem?_eq_getElem hl)
  rw [h] at h1; cases h1
  exact ⟨_, List.getElem?_eq_getElem hl, h2⟩
/-- the items' trees -/
theorem items_tree {n : Nat} {xs ys : List D} {b : Bool} {vs us : List V} {its jts : List Value} (hs : deqs (deq n) xs ys = some b) (r1 : Reps X.K w.G vs xs) (r2 : Reps X.K w.G us ys) (q1 : Vals vs its) (q2 : Vals us jts)
    (ih : ∀ x y d e c u v, deq n d e = some c → Rep X.K w.G x d → Rep X.K w.G y e → RelV x u → RelV y v → PySem.W.EqTree X.prog X.w s (n + 1) u v c) :
    (∀ j (h1 : j < its.toArray.size) (h2 : j < jts.toArray.size), PySem.W.EqTree X.prog X.w s (n + 1) its.toArray[j] jts.toArray[j] (match xs[j]?, ys[j]? with | some x, some y => (deq n x y).getD false | _, _ => false)) ∧
      b = (((List.range (min its.toArray.size jts.toArray.size)).all fun j => (match xs[j]?, ys[j]? with | some x, some y => (deq n x y).getD false | _, _ => false)) && its.toArray.size == jts.toArray.size) := by
  obtain ⟨g1, g2⟩ := deqs_all hs
  have e1 : xs.length = its.toArray.size := by rw [List.size_toArray, ← q1.length, r1.length]
  have e2 : ys.length = jts.toArray.size := by rw [List.size_toArray, ← q2.length, r2.length]
  refine ⟨fun j h1 h2 => ?_, by rw [← e1, ← e2]; exact g2⟩
  have k1 : its[j]? = some its.toArray[j] := by rw [List.getElem?_eq_getElem (by omega)]; simp
  have k2 : jts[j]? = some jts.toArray[j] := by rw [List.getElem?_eq_getElem (by omega)]; simp
  obtain ⟨v, v1, v2⟩ := vals_get q1 k1
  obtain ⟨u, u1, u2⟩ := vals_get q2 k2
  obtain ⟨d, d1, d2⟩ := r1.get' v1
  obtain ⟨e, f1, f2⟩ := r2.get' u1
  obtain ⟨c, hc⟩ := g1 j d e d1 f1
  rw [d1, f1]
  simp only [hc, Option.getD_some]
  exact ih v u d e c _ _ hc d2 f2 v2 u2
theorem deq_tree (I : Inv X pins σ w.H s) (r : Rel X.K pn w) : ∀ (n : Nat) (x y : V) (d e : D) (b : Bool) (u v : Value), deq n d e = some b → Rep X.K w.G x d → Rep X.K w.G y e → RelV x u → RelV y v → PySem.W.EqTree X.prog X.w s (n + 1) u v b := by
  intro n
  induction n with
  | zero =>
    intro x y d e b u v h p1 p2 q1 q2
    rcases deq_cases h with ⟨m, xs, ys, hn, _⟩ | ⟨m, xs, ys, hn, _⟩ | ⟨rfl, rfl, rfl⟩ | hs
    · cases hn
    · cases hn
    · cases p1 with
      | nod h1 =>
        cases p2 with
        | nod h2 =>
          cases q1; cases q2
          rename_i a a'
          by_cases e : a = a'
          · subst e; exact .same
          · obtain ⟨_, hS, vs, kr, m⟩ := I.hok a _ (r.ex _ _ h1)
            obtain ⟨_, hS', vs', kr', m'⟩ := I.hok a' _ (r.ex _ _ h2)
            cases kr; cases kr'
            exact .dicts (e := fun _ => true) e hS hS' m m' fun k v y hm => by cases hm
    · exact .leaf fun A hu => (sc_rc I r hs p1 p2 q1 q2 (by omega)).2
  | succ n ih =>
    intro x y d e b u v h p1 p2 q1 q2
    rcases deq_cases h with ⟨m, xs, ys, hn, rfl, rfl, hs⟩ | ⟨m, xs, ys, hn, rfl, rfl, hs⟩ | ⟨rfl, rfl, rfl⟩ | hs
    · cases hn
      obtain ⟨a, vs, its, rfl, rfl, k1, k2, hl⟩ := rep_tup I r p1 q1
      obtain ⟨a', vs', its', rfl, rfl, k1', k2', hl'⟩ := rep_tup I r p2 q2
      by_cases e : a = a'
      · subst e
        rw [deq_self I r _ _ _ _ _ h p1 p2]; exact .same
      · obtain ⟨t1, t2⟩ := items_tree hs k1 k1' k2 k2' (fun x y d e c u v => ih x y d e c u v)
        rw [t2]
        exact .tuples e hl hl' t1
    · cases hn
      obtain ⟨a, vs, its, rfl, rfl, k1, k2, hl⟩ := rep_lst I r p1 q1
      obtain ⟨a', vs', its', rfl, rfl, k1', k2', hl'⟩ := rep_lst I r p2 q2
      by_cases e : a = a'
      · subst e
        rw [deq_self I r _ _ _ _ _ h p1 p2]; exact .same
      · obtain ⟨t1, t2⟩ := items_tree hs k1 k1' k2 k2' (fun x y d e c u v => ih x y d e c u v)
        by_cases hz : its.toArray.size = its'.toArray.size
        · rw [t2]
          have ez : (its.toArray.size == its'.toArray.size) = true := by rw [hz]; exact beq_self_eq_true _
          have em : min its.toArray.size its'.toArray.size = its.toArray.size := by omega
          rw [ez, Bool.and_true, em]
          exact .lists e hl hl' hz t1
        · have ez : (its.toArray.size == its'.toArray.size) = false := by simpa using hz
          rw [t2, ez, Bool.and_false]
          exact .listsLen e hl hl' (by simpa using hz)
    · cases p1 with
      | nod h1 =>
        cases p2 with
        | nod h2 =>
          cases q1; cases q2
          rename_i a a'
          by_cases e : a = a'
          · subst e; exact .same
          · obtain ⟨_, hS, vs, kr, m⟩ := I.hok a _ (r.ex _ _ h1)
            obtain ⟨_, hS', vs', kr', m'⟩ := I.hok a' _ (r.ex _ _ h2)
            cases kr; cases kr'
            exact .dicts (e := fun _ => true) e hS hS' m m' fun k v y hm => by cases hm
    · exact .leaf fun A hu => (sc_rc I r hs p1 p2 q1 q2 (by omega)).2
end
/-- x == y of data; two empty dicts stand only inside -/
def dEq (d e : D) : Option Bool := match d, e with
  | .nod, _ => none
  | d, e => deq 50 d e
def rEqX (K : PySem.W.Frag) : R2 := fun x y H Q => ∃ (pn : List (Addr × Obj)) (w : Wd) (d e : D) (b : Bool), Rel K pn w ∧ w.H = H ∧ Rep K w.G x d ∧ Rep K w.G y e ∧ dEq d e = some b ∧ Q (.bl b) H
theorem op_eqX {X : Cx} (hu : X.A.units + 64 < cLine) : OpR X (compareOp .Eq) (rEqX X.K) := by
  intro pins s σ H x y v u Q I rx ry h
  obtain ⟨pn, w, d, e, b, r, rfl, p1, p2, hb, q⟩ := h
  have hd : deq 50 d e = some b := by
    unfold dEq at hb
    split at hb
    · cases hb
    · exact hb
  have nn : d ≠ .nod := by
    intro z; subst z
    unfold dEq at hb
    cases hb
  have fin : EP X pins σ Q (.bool b) s := ⟨.bl b, w.H, I, rfl, q⟩
  rcases deq_cases hd with ⟨m, xs, ys, hn, rfl, rfl, hs⟩ | ⟨m, xs, ys, hn, rfl, rfl, hs⟩ | ⟨rfl, rfl, rfl⟩ | hs
  · have hm : m = 49 := by omega
    subst hm
    obtain ⟨a, vs, its, rfl, rfl, k1, k2, hl⟩ := rep_tup I r p1 rx
    obtain ⟨a', vs', its', rfl, rfl, k1', k2', hl'⟩ := rep_tup I r p2 ry
    obtain ⟨t1, t2⟩ := items_tree hs k1 k1' k2 k2' (fun x y d e c u v => deq_tree I r 49 x y d e c u v)
    exact PySem.W.eq_tuplesT hl hl' t1 (by omega) (by rw [← t2]; exact fin)
  · have hm : m = 49 := by omega
    subst hm
    obtain ⟨a, vs, its, rfl, rfl, k1, k2, hl⟩ := rep_lst I r p1 rx
    obtain ⟨a', vs', its', rfl, rfl, k1', k2', hl'⟩ := rep_lst I r p2 ry
    obtain ⟨t1, t2⟩ := items_tree hs k1 k1' k2 k2' (fun x y d e c u v => deq_tree I r 49 x y d e c u v)
    by_cases hz : its.toArray.size = its'.toArray.size
    · have ez : (its.toArray.size == its'.toArray.size) = true := by rw [hz]; exact beq_self_eq_true _
      have em : min its.toArray.size its'.toArray.size = its.toArray.size := by omega
      rw [ez, Bool.and_true, em] at t2
      exact PySem.W.eq_listsT hl hl' hz t1 (by omega) (by rw [← t2]; exact fin)
    · have ez : (its.toArray.size == its'.toArray.size) = false := by simpa using hz
      rw [ez, Bool.and_false] at t2
      subst t2
      exact SeqAt.RcAt.lists_lengths hl hl' (by simpa using hz) (by omega) X.prog X.w X.xe _ fin
  · exact (nn rfl).elim
  · exact (sc_rc I r hs p1 p2 rx ry (by omega)).1 X.prog X.w X.xe _ fin
def fEq : D → D → Option D := fun d e => (dEq d e).map .bl
theorem k_eq {K : PySem.W.Frag} : R2Ok K (rEqX K) fEq := by
  intro pn w x y d e z Q r p1 p2 hz k
  unfold fEq at hz
  cases hb : dEq d e with
  | none => rw [hb] at hz; cases hz
  | some b =>
    rw [hb] at hz; cases hz
    exact ⟨pn, w, d, e, b, r, rfl, p1, p2, hb, k _ _ _ (.refl _) r (.bl _)⟩
end DL

namespace DL
open PySem PySem.Spec L2

/-! ### tests -/
def optB (o : Option Bool) : MT := fun s => match o with
  | some b => .ok b s
  | none => .stuck
def mTru (m : ME) : MT := bnd m fun d => optB (tru d)
def isBl : D → Option Bool
  | .bl b => some b
  | _ => none
def mBl (m : ME) : MT := bnd m fun d => optB (isBl d)
def mNotT (m : MT) : MT := bnd m fun b => ret (!b)
def mAndT (a b : MT) : MT := bnd a fun x => if x then b else ret false
def mOrT (a b : MT) : MT := bnd a fun x => if x then ret true else b
def mNot (m : ME) : ME := bnd m fun d => bnd (optB (tru d)) fun b => ret (.bl (!b))
def mAnd (a b : ME) : ME := bnd a fun d => bnd (optB (tru d)) fun x => if x then b else ret d
def mOr (a b : ME) : ME := bnd a fun d => bnd (optB (tru d)) fun x => if x then ret d else b
def mIf (t : MT) (a b : ME) : ME := bnd t fun x => if x then a else b
theorem goOn {α β : Type} {K : PySem.W.Frag} {pn : List (Addr × Obj)} {W : WX} {A : Wd → β → α → Prop} {w : Wd} {Q : β → Hp → Prop} {m : S → R α} (r : Rel K pn w) (h : okG K pn W A w Q (m w.s)) : tG K pn W A m w.σ w.H Q := ⟨w, rfl, rfl, r, h⟩
section
variable {X : Cx} {W : WX} {a b c : Expr} {ma mb mc : ME} {ta tb : MT} {pos : Pos}
theorem optB_run {K : PySem.W.Frag} {pn : List (Addr × Obj)} {δ γ : Type} {B : Wd → δ → γ → Prop} {w : Wd} {Q : δ → Hp → Prop} {o : Option Bool} {k : Bool → S → R γ} (h : okG K pn W B w Q (bnd (optB o) k w.s)) : ∃ b, o = some b ∧ okG K pn W B w Q (k b w.s) := by
  cases o with
  | none => exact h.elim
  | some b => exact ⟨b, rfl, h⟩
theorem optB_fin {K : PySem.W.Frag} {pn : List (Addr × Obj)} {w : Wd} {Q : Bool → Hp → Prop} {o : Option Bool} (h : okG K pn W AB w Q (optB o w.s)) (r : Rel K pn w) : ∃ b, o = some b ∧ Q b w.H := by
  cases o with
  | none => exact h.elim
  | some b => exact ⟨b, rfl, h w.G b w.H (.refl _) r rfl⟩
theorem jt_truth (h : JE X W a ma) (he : ∀ whole, isTrue a X.env whole = (do let v ← whole; standAt a.pos; holding [v] (truthy v)) := by intro _; rfl) : JT X W a (mTru ma) := by
  refine PT.imp (pt_truth h he) fun σ H Q h => ?_
  obtain ⟨w, rfl, rfl, r, h⟩ := h
  refine run r h fun d s' G' v H' g r' p h' => ?_
  obtain ⟨k, e, q⟩ := optB_fin h' r'
  exact ⟨k, tru_of r' p e, q⟩
theorem jt_cmp {op : CmpOp} {rr : R2} {f : D → D → Option D} (ho : OpR X (compareOp op) rr) (hr : R2Ok X.K rr f) (ha : JE X W a ma) (hb : JE X W b mb) (hm : behindInMarks op b = false) : JT X W (.Compare a [op] [b] pos) (mBl (mBin f ma mb)) := by
  refine PT.imp (pt_cmpR ho ha hb hm) fun σ H Q h => ?_
  obtain ⟨w, rfl, rfl, r, h⟩ := h
  refine r2_run hr ?_
  refine run r h fun d s' G' v H' g r' p h' => ?_
  obtain ⟨k, e, q⟩ := optB_fin h' r'
  unfold isBl at e
  split at e
  · cases e
    cases p
    exact ⟨_, rfl, q⟩
  · cases e
theorem jt_not (h : JT X W a ta) : JT X W (.UnaryOp .Not a pos) (mNotT ta) := by
  refine PT.imp (pt_not h) fun σ H Q h => ?_
  obtain ⟨w, rfl, rfl, r, h⟩ := h
  refine run r h fun d s' G' v H' g r' p h' => ?_
  cases p
  exact fin r' h' rfl
theorem JW.jt {e : Expr} {m : MT} (h : JW X W e m) : JT X W e m := PW.pt h
theorem jw_and1 (h : JT X W a ta) : JW X W (.BoolOp .And [a] pos) ta := pw_and1 h
theorem jw_or1 (h : JT X W a ta) : JW X W (.BoolOp .Or [a] pos) ta := pw_or1 h
theorem jw_and {rest : List Expr} (h1 : JT X W a ta) (h2 : JW X W (.BoolOp .And (b :: rest) pos) tb) : JW X W (.BoolOp .And (a :: b :: rest) pos) (mAndT ta tb) := by
  refine PW.imp (pw_and h1 h2) fun σ H Q h => ?_
  obtain ⟨w, rfl, rfl, r, h⟩ := h
  refine run r h fun d s' G' v H' g r' p h' => ?_
  cases p
  cases d with
  | true => exact goOn (w := { w with G := G', H := H', s := s' }) r' h'
  | false => exact fin r' h' rfl
theorem jw_or {rest : List Expr} (h1 : JT X W a ta) (h2 : JW X W (.BoolOp .Or (b :: rest) pos) tb) : JW X W (.BoolOp .Or (a :: b :: rest) pos) (mOrT ta tb) := by
  refine PW.imp (pw_or h1 h2) fun σ H Q h => ?_
  obtain ⟨w, rfl, rfl, r, h⟩ := h
  refine run r h fun d s' G' v H' g r' p h' => ?_
  cases p
  cases d with
  | true => exact fin r' h' rfl
  | false => exact goOn (w := { w with G := G', H := H', s := s' }) r' h'
theorem je_not (h : JE X W a ma) : JE X W (.UnaryOp .Not a pos) (mNot ma) := by
  refine PE.imp (pe_notT h) fun σ H Q h => ?_
  obtain ⟨w, rfl, rfl, r, h⟩ := h
  refine run r h fun d s' G' v H' g r' p h' => ?_
  obtain ⟨k, e, q⟩ := optB_run (w := { w with G := G', H := H', s := s' }) h'
  exact ⟨k, tru_of r' p e, fin r' q (.bl _)⟩
theorem je_one {op} (h : JE X W a ma) : JE X W (.BoolOp op [a] pos) ma := pe_one h
theorem je_and {rest : List Expr} (h1 : JE X W a ma) (h2 : JE X W (.BoolOp .And (b :: rest) pos) mb) : JE X W (.BoolOp .And (a :: b :: rest) pos) (mAnd ma mb) := by
  refine PE.imp (pe_andT h1 h2) fun σ H Q h => ?_
  obtain ⟨w, rfl, rfl, r, h⟩ := h
  refine run r h fun d s' G' v H' g r' p h' => ?_
  obtain ⟨k, e, q⟩ := optB_run (w := { w with G := G', H := H', s := s' }) h'
  refine ⟨k, tru_of r' p e, ?_⟩
  cases k with
  | true => exact goOn (w := { w with G := G', H := H', s := s' }) r' q
  | false => exact fin r' q p
theorem je_or {rest : List Expr} (h1 : JE X W a ma) (h2 : JE X W (.BoolOp .Or (b :: rest) pos) mb) : JE X W (.BoolOp .Or (a :: b :: rest) pos) (mOr ma mb) := by
  refine PE.imp (pe_orT h1 h2) fun σ H Q h => ?_
  obtain ⟨w, rfl, rfl, r, h⟩ := h
  refine run r h fun d s' G' v H' g r' p h' => ?_
  obtain ⟨k, e, q⟩ := optB_run (w := { w with G := G', H := H', s := s' }) h'
  refine ⟨k, tru_of r' p e, ?_⟩
  cases k with
  | true => exact fin r' q p
  | false => exact goOn (w := { w with G := G', H := H', s := s' }) r' q
theorem je_if (h : JT X W c ta) (h1 : JE X W a ma) (h2 : JE X W b mb) : JE X W (.IfExp c a b pos) (mIf ta ma mb) := by
  refine PE.imp (pe_ifExp h h1 h2) fun σ H Q h => ?_
  obtain ⟨w, rfl, rfl, r, h⟩ := h
  refine run r h fun d s' G' v H' g r' p h' => ?_
  cases p
  cases d with
  | true => exact goOn (w := { w with G := G', H := H', s := s' }) r' h'
  | false => exact goOn (w := { w with G := G', H := H', s := s' }) r' h'
/-- a if t else b, both new lists -/
def mIfF (t : MT) (a b : MA) : MA := bnd t fun x => if x then a else b
theorem jf_if {ma mb : MA} (h : JT X W c ta) (h1 : JF X W a ma) (h2 : JF X W b mb) : JF X W (.IfExp c a b pos) (mIfF ta ma mb) := by
  refine PE.imp (pe_ifExp h h1 h2) fun σ H Q h => ?_
  obtain ⟨w, rfl, rfl, r, h⟩ := h
  refine run r h fun d s' G' v H' g r' p h' => ?_
  cases p
  cases d with
  | true => exact goOn (w := { w with G := G', H := H', s := s' }) r' h'
  | false => exact goOn (w := { w with G := G', H := H', s := s' }) r' h'
/-- -x -/
def mUn (f : D → Option D) (m : ME) : ME := bnd m fun d => lift (f d)
def iNeg : D → Option D
  | .int i => some (.int (-i))
  | _ => none
theorem je_neg (h : JE X W a ma) : JE X W (.UnaryOp .USub a pos) (mUn iNeg ma) := by
  refine PE.imp (pe_un un_neg h) fun σ H Q h => ?_
  obtain ⟨w, rfl, rfl, r, h⟩ := h
  refine run r h fun d s' G' v H' g r' p h' => ?_
  unfold iNeg at h'
  split at h'
  · cases p
    exact ⟨_, rfl, fin r' h' (.int _)⟩
  · exact h'.elim
/-- is None -/
def isNon : D → Bool
  | .non => true
  | _ => false
def fIsN : D → D → Option D
  | d, .non => some (.bl (isNon d))
  | _, _ => none
def fNotN : D → D → Option D
  | d, .non => some (.bl (!isNon d))
  | _, _ => none
theorem rep_non {K : PySem.W.Frag} {G : Gh} {v : V} {d : D} (p : Rep K G v d) : decide (v = .non) = isNon d := by
  cases p <;> simp [isNon]
theorem k_isN {K : PySem.W.Frag} : R2Ok K (fun x y H Q => y = .non ∧ Q (.bl (decide (x = .non))) H) fIsN := by
  intro pn w x y d e z Q r p1 p2 hz k
  unfold fIsN at hz
  split at hz
  · cases hz; cases p2
    refine ⟨rfl, ?_⟩
    rw [rep_non p1]
    exact k _ _ _ (.refl _) r (.bl _)
  · cases hz
theorem k_notN {K : PySem.W.Frag} : R2Ok K (fun x y H Q => y = .non ∧ Q (.bl (!decide (x = .non))) H) fNotN := by
  intro pn w x y d e z Q r p1 p2 hz k
  unfold fNotN at hz
  split at hz
  · cases hz; cases p2
    refine ⟨rfl, ?_⟩
    rw [rep_non p1]
    exact k _ _ _ (.refl _) r (.bl _)
  · cases hz
/-- a op b op' c -/
def mChain (f f' : D → D → Option D) (a b c : ME) : ME := bnd a fun x => bnd b fun y => bnd (lift (f x y)) fun z => bnd (optB (isBl z)) fun k => if k then bnd c fun v => lift (f' y v) else ret (.bl false)
theorem chain_run {rr rr' : R2} {f f' : D → D → Option D} {σ : L2.St} {H : Hp} {Q : VK} (hr : R2Ok X.K rr f) (hr' : R2Ok X.K rr' f') (h : tG X.K X.pn W (AR X.K) (mChain f f' ma mb mc) σ H Q) :
    tChain rr rr' (tG X.K X.pn W (AR X.K) ma) (tG X.K X.pn W (AR X.K) mb) (tG X.K X.pn W (AR X.K) mc) σ H Q := by
  obtain ⟨w, rfl, rfl, r, h⟩ := h
  refine run r h fun d s' G' v H' g r' p h' => ?_
  refine run r' h' fun e s2 G2 u H2 g2 r2 p2 h2 => ?_
  cases hz : f d e with
  | none => rw [hz] at h2; exact h2.elim
  | some z =>
    rw [hz] at h2
    refine hr X.pn _ v u d e z _ r2 (p.mono g2) p2 hz fun G3 y H3 g3 r3 p3 => ?_
    cases hk : isBl z with
    | none => rw [show bnd (lift (some z)) _ s2 = _ from rfl] at h2; simp only [bnd, lift, ret, hk, optB] at h2; exact h2.elim
    | some k =>
      simp only [bnd, lift, ret, hk, optB] at h2
      unfold isBl at hk
      split at hk
      · cases hk
        cases p3
        refine ⟨_, rfl, ?_⟩
        cases k with
        | false => exact h2 G3 _ H3 g3 r3 (.bl _)
        | true =>
          simp only [if_true] at h2
          refine run (w := { w with G := G3, H := H3, s := s2 }) r3 (okG.up (w := { w with G := G2, H := H2, s := s2 }) h2 g3) fun e4 s4 G4 u4 H4 g4 r4 p4 h4 => ?_
          cases hz4 : f' e e4 with
          | none => rw [hz4] at h4; exact h4.elim
          | some z4 =>
            rw [hz4] at h4
            exact hr' X.pn _ u u4 e e4 z4 Q r4 (p2.mono (g3.trans g4)) p4 hz4 fun G5 y5 H5 g5 r5 p5 => h4 G5 y5 H5 g5 r5 p5
      · cases hk
theorem je_chain {op op' : CmpOp} {rr rr' : R2} {f f' : D → D → Option D} (ho : OpR X (compareOp op) rr) (hr : R2Ok X.K rr f) (ho' : OpR X (compareOp op') rr') (hr' : R2Ok X.K rr' f') (ha : JE X W a ma) (hb : JE X W b mb) (hc : JE X W c mc)
    (hm : lastMarks [op, op'] [b, c] = false := by with_unfolding_all rfl) : JE X W (.Compare a [op, op'] [b, c] pos) (mChain f f' ma mb mc) :=
  PE.imp (pe_chain ho ho' ha hb hc hm) fun _ _ _ h => chain_run hr hr' h
theorem jt_chain {op op' : CmpOp} {rr rr' : R2} {f f' : D → D → Option D} (ho : OpR X (compareOp op) rr) (hr : R2Ok X.K rr f) (ho' : OpR X (compareOp op') rr') (hr' : R2Ok X.K rr' f') (ha : JE X W a ma) (hb : JE X W b mb) (hc : JE X W c mc)
    (hm : lastMarks [op, op'] [b, c] = false := by with_unfolding_all rfl) : JT X W (.Compare a [op, op'] [b, c] pos) (mBl (mChain f f' ma mb mc)) := by
  refine PT.imp (pt_chain ho ho' ha hb hc hm) fun σ H Q h => ?_
  obtain ⟨w, rfl, rfl, r, h⟩ := h
  refine chain_run hr hr' ?_
  refine run r h fun d s' G' v H' g r' p h' => ?_
  obtain ⟨k, e, q⟩ := optB_fin h' r'
  unfold isBl at e
  split at e
  · cases e
    cases p
    exact ⟨_, rfl, q⟩
  · cases e
end
end DL

namespace DL
open PySem PySem.Spec L2

/-! ### statements -/
section
variable {α β : Type} {K : PySem.W.Frag} {pn : List (Addr × Obj)} {W : WX}
theorem okS.up {w : Wd} {D : Ends} {r : R Fl} (h : okS K pn W w D r) {G' : Gh} {σ' : L2.St} {H' : Hp} {s' : S} (e : w.G.le G') : okS K pn W { w with G := G', σ := σ', H := H', s := s' } D r := by
  cases r with
  | ok fl s2 => exact fun G2 σ2 H2 e2 r2 => h G2 σ2 H2 (e.trans e2) r2
  | exc x s2 => exact fun G2 σ2 c d H2 e2 r2 a2 => h G2 σ2 c d H2 (e.trans e2) r2 a2
  | stuck => exact h
theorem runS {A : Wd → β → α → Prop} {m : S → R α} {k : α → S → R Fl} {w : Wd} {D : Ends} {Q1 : β → Hp → Prop} (r : Rel K pn w) (h : okS K pn W w D (bnd m k w.s))
    (hk : ∀ a s' G' b H', w.G.le G' → Rel K pn { w with G := G', H := H', s := s' } → A { w with G := G', H := H', s := s' } b a → okS K pn W { w with G := G', H := H', s := s' } D (k a s') → Q1 b H') : tG K pn W A m w.σ w.H Q1 := by
  refine ⟨w, rfl, rfl, r, ?_⟩
  unfold bnd at h
  cases hm : m w.s with
  | ok a s' =>
    rw [hm] at h
    intro G' b H' e r' ha
    exact hk a s' G' b H' e r' ha (okS.up (σ' := w.σ) h e)
  | exc x s' =>
    rw [hm] at h
    exact fun G' c d H' e r' ha => h G' w.σ c d H' e r' ha
  | stuck =>
    rw [hm] at h
    exact h
theorem goS {w : Wd} {D : Ends} {m : MS} (r : Rel K pn w) (h : okS K pn W w D (m w.s)) : tS K pn W m D w.σ w.H := ⟨w, rfl, rfl, r, h⟩
/-- m alone, its end known -/
theorem runM {w : Wd} {D D' : Ends} {m : MS} (r : Rel K pn w) (h : ∀ x, m w.s = x → okS K pn W w D' x) : tS K pn W m D' w.σ w.H := ⟨w, rfl, rfl, r, h _ rfl⟩
end
def mPass : MS := ret .nx
def mExpr (m : ME) : MS := bnd m fun _ => ret .nx
def mExprF (m : MA) : MS := bnd m fun _ => ret .nx
def mSet (i : Nat) (m : ME) : MS := bnd m fun d s => .ok .nx (s.put i (.imm d))
def mOwn (i : Nat) (m : MA) : MS := bnd m fun ds s => .ok .nx (s.put i (.own ds))
def mRet (m : ME) : MS := bnd m fun d => ret (.rt d)
def mIfS (t : MT) (a b : MS) : MS := bnd t fun x => if x then a else b
def mSeq (a b : MS) : MS := fun s => match a s with
  | .ok .nx s' => b s'
  | .ok fl s' => .ok fl s'
  | .exc x s' => .exc x s'
  | .stuck => .stuck
section
variable {X : Cx} {W : WX} {e : Expr} {m : ME} {pos : Pos} {st : Stmt} {rest : List Stmt} {ms ms' : MS}
theorem jss_nil : JSs X W [] mPass := by
  refine PSs.imp pss_nil fun D σ H h => ?_
  obtain ⟨w, rfl, rfl, r, h⟩ := h
  exact h w.G w.σ w.H (.refl _) r
theorem jss_cons (h1 : JS X W st ms) (h2 : JSs X W rest ms') : JSs X W (st :: rest) (mSeq ms ms') := by
  refine PSs.imp (pss_cons h1 h2) fun D σ H h => ?_
  obtain ⟨w, rfl, rfl, r, h⟩ := h
  refine ⟨w, rfl, rfl, r, ?_⟩
  unfold mSeq at h
  cases hm : ms w.s with
  | ok fl s' =>
    rw [hm] at h
    cases fl with
    | nx => exact fun G' σ' H' g r' => ⟨_, rfl, rfl, r', okS.up (w := w) h g⟩
    | bk => exact h
    | ct => exact h
    | rt d => exact h
  | exc x s' => rw [hm] at h; exact h
  | stuck => rw [hm] at h; exact h
theorem jss_one (h : JS X W st ms) : JSs X W [st] ms := pss_one h
theorem js_pass : JS X W (.Pass pos) mPass := by
  refine PS.imp ps_pass fun D σ H h => ?_
  obtain ⟨w, rfl, rfl, r, h⟩ := h
  exact h w.G w.σ w.H (.refl _) r
def mBreak : MS := ret .bk
def mCont : MS := ret .ct
theorem js_break : JS X W (.Break pos) mBreak := by
  refine PS.imp ps_break fun D σ H h => ?_
  obtain ⟨w, rfl, rfl, r, h⟩ := h
  exact h w.G w.σ w.H (.refl _) r
theorem js_cont : JS X W (.Continue pos) mCont := by
  refine PS.imp ps_continue fun D σ H h => ?_
  obtain ⟨w, rfl, rfl, r, h⟩ := h
  exact h w.G w.σ w.H (.refl _) r
theorem js_expr (h : JE X W e m) (hs : swapsWith e none pos.line X.env = pure false := by rfl) : JS X W (.Expr e pos) (mExpr m) := by
  refine PS.imp (ps_expr h hs) fun D σ H h => ?_
  obtain ⟨w, rfl, rfl, r, h⟩ := h
  refine runS r h fun d s' G' v H' g r' p h' => ?_
  exact h' G' w.σ H' (.refl _) r'
theorem js_set {i : Nat} {x : Str} {pos' : Pos} (hN : X.N.Nodup) (hi : X.N[i]? = some x) (hx : Loc X.env.scope x) (h : JE X W e m) (hs : swapsWith e (some (.Name x pos')) pos.line X.env = pure false := by rfl) (hf : X.fn x = true ∨ X.env.scope.names.lookup x = some .local := by first | exact .inl rfl | exact .inr rfl | assumption) :
    JS X W (.Assign [.Name x pos'] e pos) (mSet i m) := by
  refine PS.imp (ps_set hN hi hx h hs hf) fun D σ H h => ?_
  obtain ⟨w, rfl, rfl, r, h⟩ := h
  refine runS r h fun d s' G' v H' g r' p h' => ?_
  exact h' G' _ H' (.refl _) (r'.set (i := i) p)
theorem js_own {i : Nat} {x : Str} {pos' : Pos} {m : MA} (hN : X.N.Nodup) (hi : X.N[i]? = some x) (hx : Loc X.env.scope x) (h : JF X W e m) (hs : swapsWith e (some (.Name x pos')) pos.line X.env = pure false := by rfl) (hf : X.fn x = true ∨ X.env.scope.names.lookup x = some .local := by first | exact .inl rfl | exact .inr rfl | assumption) :
    JS X W (.Assign [.Name x pos'] e pos) (mOwn i m) := by
  refine PS.imp (ps_set hN hi hx h hs hf) fun D σ H h => ?_
  obtain ⟨w, rfl, rfl, r, h⟩ := h
  refine runS r h fun d s' G' v H' g r' p h' => ?_
  exact h' G' _ H' (.refl _) (r'.setOwn (i := i) p)
theorem js_ret (h : JE X W e m) : JS X W (.Return (some e) pos) (mRet m) := by
  refine PS.imp (ps_ret h) fun D σ H h => ?_
  obtain ⟨w, rfl, rfl, r, h⟩ := h
  refine runS r h fun d s' G' v H' g r' p h' => ?_
  exact h' G' w.σ H' (.refl _) r' v p
def mRetN : MS := ret (.rt .non)
theorem js_retN : JS X W (.Return none pos) mRetN := by
  refine PS.imp ps_retN fun D σ H h => ?_
  obtain ⟨w, rfl, rfl, r, h⟩ := h
  exact h w.G w.σ w.H (.refl _) r _ .non
theorem js_if {c : Expr} {a b : List Stmt} {t : MT} (hc : JT X W c t) (ha : JSs X W a ms) (hb : JSs X W b ms') : JS X W (.If c a b pos) (mIfS t ms ms') := by
  refine PS.imp (ps_if hc ha hb) fun D σ H h => ?_
  obtain ⟨w, rfl, rfl, r, h⟩ := h
  refine runS r h fun d s' G' v H' g r' p h' => ?_
  cases p
  cases d with
  | true => exact goS (w := { w with G := G', H := H', s := s' }) r' h'
  | false => exact goS (w := { w with G := G', H := H', s := s' }) r' h'
end

/-! ### targets: a name, a tuple of targets -/
abbrev MG := D → Option (List (Nat × D))
def S.puts (s : S) : List (Nat × D) → S
  | [] => s
  | (i, d) :: l => (s.put i (.imm d)).puts l
def upds (σ : L2.St) : List (Nat × V) → L2.St
  | [] => σ
  | (i, v) :: l => upds (σ.set i (some v)) l
def RepU (K : PySem.W.Frag) (G : Gh) : List (Nat × V) → List (Nat × D) → Prop := Paired fun p q => p.1 = q.1 ∧ Rep K G p.2 q.2
theorem Rel.sets {K : PySem.W.Frag} {pn : List (Addr × Obj)} : ∀ {lv : List (Nat × V)} {l : List (Nat × D)} {w : Wd}, Rel K pn w → RepU K w.G lv l → Rel K pn { w with σ := upds w.σ lv, s := w.s.puts l }
  | _, _, _, r, .nil => r
  | _, _, w, r, .cons (a := p) (b := q) h t => by
    obtain ⟨i, v⟩ := p
    obtain ⟨j, d⟩ := q
    obtain ⟨e, h⟩ := h
    cases e
    exact Rel.sets (w := { w with σ := w.σ.set i (some v), s := w.s.put i (.imm d) }) (r.set h) t
theorem wipe_upds {vs : List Nat} : ∀ {lv : List (Nat × V)} {σ : L2.St}, (∀ p ∈ lv, p.1 ∈ vs) → wipe (upds σ lv) vs = wipe σ vs
  | [], _, _ => rfl
  | (i, v) :: l, σ, h => by
    have e : wipe (upds (σ.set i (some v)) l) vs = wipe (σ.set i (some v)) vs := wipe_upds (fun p hp => h p (List.mem_cons_of_mem _ hp))
    show wipe (upds (σ.set i (some v)) l) vs = wipe σ vs
    rw [e]
    have hi : i ∈ vs := h (i, v) List.mem_cons_self
    clear e h
    induction vs with
    | nil => cases hi
    | cons a r ih =>
      unfold wipe
      by_cases hr : i ∈ r
      · rw [ih hr]
      · have ea : i = a := by
          rcases List.mem_cons.mp hi with z | z
          · exact z
          · exact absurd z hr
        subst ea
        have : ∀ (vs : List Nat) (σ : L2.St) (x : Option V), i ∉ vs → wipe (σ.set i x) vs = (wipe σ vs).set i x := by
          intro vs
          induction vs with
          | nil => intro σ x _; rfl
          | cons b q ihq =>
            intro σ x hn
            simp only [List.mem_cons, not_or] at hn
            unfold wipe
            rw [ihq σ x hn.2, List.set_comm _ _ hn.1]
        rw [this r σ _ hr, List.set_set]
/-- the target's reading: the slots that it stores -/
def tTg (K : PySem.W.Frag) (mg : MG) : TG := fun v σ H Q => ∃ (pn : List (Addr × Obj)) (w : Wd) (d : D) (l : List (Nat × D)), w.H = H ∧ Rel K pn w ∧ Rep K w.G v d ∧ mg d = some l ∧ ∀ lv, RepU K w.G lv l → Q (upds σ lv) H
structure JG (X : Cx) (tg : Expr) (mg : MG) (ix : List Nat) : Prop where
  pg : PG X tg (tTg X.K mg)
  ix : ∀ d l, mg d = some l → ∀ p ∈ l, p.1 ∈ ix
def gNm (i : Nat) : MG := fun d => some [(i, d)]
theorem PG.imp {X : Cx} {e : Expr} {t t' : TG} (h : PG X e t) (i : ∀ v σ H Q, t' v σ H Q → t v σ H Q) : PG X e t' := ⟨fun pins s σ H v u Q I r q => h.run pins s σ H v u Q I r (i _ _ _ _ q)⟩
theorem PGs.imp {X : Cx} {e : List Expr} {t t' : TGs} (h : PGs X e t) (i : ∀ v σ H Q, t' v σ H Q → t v σ H Q) : PGs X e t' := ⟨fun pins s σ H v u Q I r q => h.run pins s σ H v u Q I r (i _ _ _ _ q)⟩
section
variable {X : Cx} {pos : Pos}
theorem jg_name {i : Nat} {x : Str} (hN : X.N.Nodup) (hi : X.N[i]? = some x) (hx : Loc X.env.scope x) (hf : X.fn x = true ∨ X.env.scope.names.lookup x = some .local := by first | exact .inl rfl | exact .inr rfl | assumption) : JG X (.Name x pos) (gNm i) [i] := by
  refine ⟨PG.imp (pg_name hN hi hx hf) fun v σ H Q h => ?_, fun d l h p hp => ?_⟩
  · obtain ⟨pn, w, d, l, rfl, r, p, e, q⟩ := h
    cases e
    exact q [(i, v)] (.cons ⟨rfl, p⟩ .nil)
  · cases h
    simp at hp
    simp [hp]
abbrev MGs := List D → Option (List (Nat × D))
def tTgs (K : PySem.W.Frag) (mg : MGs) : TGs := fun vs σ H Q => ∃ (pn : List (Addr × Obj)) (w : Wd) (ds : List D) (l : List (Nat × D)), w.H = H ∧ Rel K pn w ∧ Reps K w.G vs ds ∧ mg ds = some l ∧ ∀ lv, RepU K w.G lv l → Q (upds σ lv) H
structure JGs (X : Cx) (tg : List Expr) (mg : MGs) (ix : List Nat) : Prop where
  pg : PGs X tg (tTgs X.K mg)
  ix : ∀ d l, mg d = some l → ∀ p ∈ l, p.1 ∈ ix
def gsNil : MGs
  | [] => some []
  | _ => none
def gsCons (g : MG) (gs : MGs) : MGs
  | d :: ds => match g d, gs ds with
    | some l, some l' => some (l ++ l')
    | _, _ => none
  | [] => none
theorem jgs_nil : JGs X [] gsNil [] := by
  refine ⟨PGs.imp pgs_nil fun v σ H Q h => ?_, fun d l h p hp => ?_⟩
  · obtain ⟨pn, w, ds, l, rfl, r, p, e, q⟩ := h
    unfold gsNil at e
    split at e
    · cases p; cases e
      exact ⟨rfl, q [] .nil⟩
    · cases e
  · unfold gsNil at h
    split at h
    · cases h; cases hp
    · cases h
theorem upds_append : ∀ (l l' : List (Nat × V)) (σ : L2.St), upds σ (l ++ l') = upds (upds σ l) l'
  | [], _, _ => rfl
  | (i, v) :: l, l', σ => upds_append l l' (σ.set i (some v))
theorem paired_append {α β : Type} {F : α → β → Prop} : ∀ {a : List α} {b : List β} {c : List α} {d : List β}, Paired F a b → Paired F c d → Paired F (a ++ c) (b ++ d)
  | _, _, _, _, .nil, h => h
  | _, _, _, _, .cons x t, h => .cons x (paired_append t h)
theorem jgs_cons {e : Expr} {es : List Expr} {g : MG} {gs : MGs} {ix ix' : List Nat} (h1 : JG X e g ix) (h2 : JGs X es gs ix') (hs : (assignEach (e :: es) X.env).map (·.2) = assign e X.env :: (assignEach es X.env).map (·.2) := by rfl) : JGs X (e :: es) (gsCons g gs) (ix ++ ix') := by
  refine ⟨PGs.imp (pgs_cons h1.pg h2.pg hs) fun v σ H Q h => ?_, fun d l h p hp => ?_⟩
  · obtain ⟨pn, w, ds, l, rfl, r, p, e, q⟩ := h
    cases p with
    | nil => cases e
    | cons p ps =>
      rename_i v vs d ds
      unfold gsCons at e
      cases h1 : g d with
      | none => simp [h1] at e
      | some l1 =>
        cases h2 : gs ds with
        | none => simp [h1, h2] at e
        | some l2 =>
          simp [h1, h2] at e
          subst e
          refine ⟨v, vs, rfl, pn, w, d, l1, rfl, r, p, h1, fun lv hv => ?_⟩
          refine ⟨pn, w, ds, l2, rfl, r, ps, h2, fun lv' hv' => ?_⟩
          rw [← upds_append]
          exact q _ (paired_append hv hv')
  · cases d with
    | nil => cases h
    | cons d ds =>
      unfold gsCons at h
      cases e1 : g d with
      | none => simp [e1] at h
      | some l1 =>
        cases e2 : gs ds with
        | none => simp [e1, e2] at h
        | some l2 =>
          simp [e1, e2] at h
          subst h
          rcases List.mem_append.mp hp with z | z
          · exact List.mem_append_left _ (h1.ix d l1 e1 p z)
          · exact List.mem_append_right _ (h2.ix ds l2 e2 p z)
def gTp (n : Nat) (gs : MGs) : MG
  | .tup ds => if ds.length = n then gs ds else none
  | _ => none
theorem jg_tup {es : List Expr} {k : Nat} {gs : MGs} {ix : List Nat} {n : Nat} (hc : X.calm = true) (h : JGs X es gs ix) (hn : (assignEach es X.env).length = n := by rfl) (hst : (assignEach es X.env).findIdx? (·.1) = none := by rfl) : JG X (.Tuple es k pos) (gTp n gs) ix := by
  refine ⟨PG.imp (pg_tup hc h.pg hn hst) fun v σ H Q h => ?_, fun d l e p hp => ?_⟩
  · obtain ⟨pn, w, d, l, rfl, r, p, e, q⟩ := h
    unfold gTp at e
    split at e
    · rename_i ds
      cases p with
      | tup hs rs =>
        split at e
        · rename_i hl
          exact ⟨_, _, rfl, tqT r.ex hs, rs.length.trans hl, pn, w, ds, l, rfl, r, rs, e, q⟩
        · cases e
    · cases e
  · unfold gTp at e
    split at e
    · split at e
      · exact h.ix _ _ e p hp
      · cases e
    · cases e
/-- target = value, the target a tuple of names -/
def mAsg (g : MG) (m : ME) : MS := bnd m fun d s => match g d with
  | some l => .ok .nx (s.puts l)
  | none => .stuck
theorem js_asg {tg e : Expr} {W : WX} {m : ME} {g : MG} {ix : List Nat} (he : JE X W e m) (hg : JG X tg g ix) (hs : swapsWithSole [tg] e pos.line X.env = pure false := by rfl) (hw : swappedStores [tg] e X.env = pure none := by rfl)
    (h1 : (assignEach [tg] X.env).map (·.2) = [assign tg X.env] := by rfl) : JS X W (.Assign [tg] e pos) (mAsg g m) := by
  refine PS.imp (ps_asg he hg.pg hs hw h1) fun D σ H h => ?_
  obtain ⟨w, rfl, rfl, r, h⟩ := h
  refine runS r h fun d s' G' v H' g' r' p h' => ?_
  cases hl : g d with
  | none => rw [hl] at h'; exact h'.elim
  | some l =>
    rw [hl] at h'
    exact ⟨X.pn, { w with G := G', H := H', s := s' }, d, l, rfl, r', p, hl, fun lv hv => h' G' _ H' (.refl _) (Rel.sets r' hv)⟩
end

/-! ### what is walked -/
structure ItR (K : PySem.W.Frag) (J : It) (G : Gh) (ds : List D) : Prop where
  go : ∀ pn w, Rel K pn w → G.le w.G → ∀ i, i < ds.length → J.go i w.H
  yld : ∀ pn w, Rel K pn w → G.le w.G → ∀ (i : Nat) d x H', ds[i]? = some d → J.yld i w.H x H' → ∃ G', w.G.le G' ∧ Rel K pn { w with G := G', H := H' } ∧ Rep K G' x d
  stop : ∀ pn w, Rel K pn w → G.le w.G → ∀ i, ds.length ≤ i → J.stop i w.H
abbrev AI (K : PySem.W.Frag) : Wd → It → List D → Prop := fun w J ds => ItR K J w.G ds
def JI (X : Cx) (W : WX) (tg iter : Expr) (m : MA) : Prop := PI X tg iter (tG X.K X.pn W (AI X.K) m)
theorem PI.imp {X : Cx} {tg e : Expr} {t t' : TI} (h : PI X tg e t) (i : ∀ σ H Q, t' σ H Q → t σ H Q) : PI X tg e t' := ⟨fun pins s σ H R I q => h.run pins s σ H R I (i _ _ _ q)⟩
theorem PI.or {X : Cx} {tg e : Expr} {t t' : TI} (h : PI X tg e t) (h' : PI X tg e t') : PI X tg e (fun σ H R => t σ H R ∨ t' σ H R) := ⟨fun pins s σ H R I q => q.elim (h.run pins s σ H R I) (h'.run pins s σ H R I)⟩
/-- the items of a tuple, of a list -/
def itD : D → Option (List D)
  | .tup ds => some ds
  | .lst ds => some ds
  | .kl ds => some ds
  | _ => none
def mIt (m : ME) : MA := bnd m fun d s => match itD d with
  | some ds => .ok ds s
  | none => .stuck
section
variable {K : PySem.W.Frag} {G : Gh} {a : Addr} {vs : List V} {ds : List D}
theorem itl_r (h : SqL K G.F a vs) (rs : Reps K G vs ds) : ItR K (Itl K a) G ds where
  go := fun pn w r g i hi => by
    have hl : i < vs.length := by rw [rs.length]; exact hi
    exact ⟨vs, vs[i], sqL_mono (fun a o z => r.ex a o (g.f a o z)) h, List.getElem?_eq_getElem hl⟩
  yld := fun pn w r g i d x H' hd y => by
    obtain ⟨e, y⟩ := y
    subst e
    have q := y vs (sqL_mono (fun a o z => r.ex a o (g.f a o z)) h)
    obtain ⟨v, h1, h2⟩ := rs.get hd
    rw [q] at h1
    cases h1
    exact ⟨w.G, .refl _, r, h2.mono g⟩
  stop := fun pn w r g i hi => ⟨vs, sqL_mono (fun a o z => r.ex a o (g.f a o z)) h, by rw [rs.length]; exact hi⟩
theorem itt_r (h : G.F a = some (.tup vs)) (rs : Reps K G vs ds) : ItR K (Itt K a) G ds where
  go := fun pn w r g i hi => by
    have hl : i < vs.length := by rw [rs.length]; exact hi
    exact ⟨vs, vs[i], tqT (fun a o z => r.ex a o (g.f a o z)) h, List.getElem?_eq_getElem hl⟩
  yld := fun pn w r g i d x H' hd y => by
    obtain ⟨e, y⟩ := y
    subst e
    have q := y vs (tqT (fun a o z => r.ex a o (g.f a o z)) h)
    obtain ⟨v, h1, h2⟩ := rs.get hd
    rw [q] at h1
    cases h1
    exact ⟨w.G, .refl _, r, h2.mono g⟩
  stop := fun pn w r g i hi => ⟨vs, tqT (fun a o z => r.ex a o (g.f a o z)) h, by rw [rs.length]; exact hi⟩
/-- lo, lo + 1 .. -/
def intsD (lo : Int) (n : Nat) : List D := (List.range n).map fun (i : Nat) => .int (lo + i)
theorem itr_r {lo : Int} {n : Nat} : ItR K (Itr lo n) G (intsD lo n) where
  go := fun pn w r g i hi => by show i < n; simpa [intsD] using hi
  yld := fun pn w r g i d x H' hd y => by
    obtain ⟨e, y⟩ := y
    subst e y
    unfold intsD at hd
    rw [List.getElem?_map] at hd
    cases hr : (List.range n)[i]? with
    | none => rw [hr] at hd; cases hd
    | some j =>
      rw [hr] at hd
      have : j = i := by
        obtain ⟨hl, e⟩ := List.getElem?_eq_some_iff.mp hr
        rw [List.getElem_range] at e
        exact e.symm
      subst this
      cases hd
      exact ⟨w.G, .refl _, r, .int _⟩
  stop := fun pn w r g i hi => by show n ≤ i; simpa [intsD] using hi
end
section
variable {X : Cx} {W : WX} {tg e : Expr} {m : ME} {pos p : Pos}
theorem run' {α β γ δ : Type} {K : PySem.W.Frag} {pn : List (Addr × Obj)} {A : Wd → β → α → Prop} {B : Wd → δ → γ → Prop} {m : S → R α} {k : α → S → R γ} {w : Wd} {Q : δ → Hp → Prop} {Q1 : β → Hp → Prop} (r : Rel K pn w) (h : okG K pn W B w Q (bnd m k w.s))
    (hk : ∀ a s' G' b H', m w.s = .ok a s' → w.G.le G' → Rel K pn { w with G := G', H := H', s := s' } → A { w with G := G', H := H', s := s' } b a → okG K pn W B { w with G := G', H := H', s := s' } Q (k a s') → Q1 b H') : tG K pn W A m w.σ w.H Q1 := by
  refine ⟨w, rfl, rfl, r, ?_⟩
  unfold bnd at h
  cases hm : m w.s with
  | ok a s' =>
    rw [hm] at h
    intro G' b H' e r' ha
    exact hk a s' G' b H' hm e r' ha (h.up e)
  | exc x s' =>
    rw [hm] at h
    exact h
  | stuck =>
    rw [hm] at h
    exact h
def isTup : D → Bool
  | .tup _ => true
  | _ => false
theorem rep_sq {K : PySem.W.Frag} {G : Gh} {v : V} {d : D} {ds : List D} (p : Rep K G v d) (h : itD d = some ds) (ht : isTup d = false) : ∃ a vs, v = .ref a ∧ SqL K G.F a vs ∧ Reps K G vs ds := by
  cases p with
  | tup hs rs => cases ht
  | lst hs rs => cases h; exact ⟨_, _, rfl, SqL.of hs, rs⟩
  | kl hs rs => cases h; exact ⟨_, _, rfl, hs, rs⟩
  | _ => cases h
theorem rep_st {K : PySem.W.Frag} {G : Gh} {v : V} {d : D} {ds : List D} (p : Rep K G v d) (h : itD d = some ds) (ht : isTup d = true) : ∃ a vs, v = .ref a ∧ G.F a = some (.tup vs) ∧ Reps K G vs ds := by
  cases p with
  | tup hs rs => cases h; exact ⟨_, _, rfl, hs, rs⟩
  | _ => cases ht
theorem ji_seq (h : JE X W e m) : JI X W tg e (mIt m) := by
  refine PI.imp (PI.or (pi_list h) (pi_tup h)) fun σ H Q h => ?_
  obtain ⟨w, rfl, rfl, r, h⟩ := h
  by_cases hl : ∃ d s', m w.s = .ok d s' ∧ isTup d = true
  · obtain ⟨d0, s0, hm, ht⟩ := hl
    refine .inr (run' r h fun d s2 G' v H' hm2 g r' p h' => ?_)
    rw [hm] at hm2
    cases hm2
    cases hd : itD d0 with
    | none => rw [hd] at h'; exact h'.elim
    | some ds =>
      rw [hd] at h'
      obtain ⟨a, vs, rfl, hs, rs⟩ := rep_st p hd ht
      exact ⟨_, rfl, ⟨_, tqT r'.ex hs⟩, fin r' h' (itt_r hs rs)⟩
  · refine .inl (run' r h fun d s2 G' v H' hm2 g r' p h' => ?_)
    cases hd : itD d with
    | none => rw [hd] at h'; exact h'.elim
    | some ds =>
      rw [hd] at h'
      have ht : isTup d = false := by
        cases q : isTup d with
        | false => rfl
        | true => exact (hl ⟨_, _, hm2, q⟩).elim
      obtain ⟨a, vs, rfl, hs, rs⟩ := rep_sq p hd ht
      exact ⟨_, rfl, ⟨_, sqL_mono r'.ex hs⟩, fin r' h' (itl_r hs rs)⟩
/-- a new list walked: nobody else holds it -/
theorem ji_new {m : MA} (h : JF X W e m) : JI X W tg e m := by
  refine PI.imp (pi_list h) fun σ H Q h => ?_
  obtain ⟨w, rfl, rfl, r, h⟩ := h
  have h2 : okG X.K X.pn W (AI X.K) w Q (bnd m (fun ds s => .ok ds s) w.s) := by
    unfold bnd
    cases hm : m w.s <;> (rw [hm] at h; exact h)
  refine run r h2 fun ds s2 G' v H' g r' p h' => ?_
  obtain ⟨G2, g2, r2, q⟩ := AF.rep r' p
  cases q with
  | lst hs rs => exact ⟨_, rfl, ⟨_, SqL.of (r2.ex _ _ hs)⟩, h' G2 _ H' g2 r2 (itl_r (SqL.of hs) rs)⟩
/-- range -/
def rng1 : List D → Option (List D)
  | [.int j] => if -(2 ^ 62) ≤ j ∧ j < 2 ^ 62 then some (intsD 0 j.toNat) else none
  | _ => none
def rng2 : List D → Option (List D)
  | [.int i, .int j] => if -(2 ^ 62) ≤ i ∧ i < 2 ^ 62 ∧ -(2 ^ 62) ≤ j ∧ j < 2 ^ 62 then some (intsD i (j - i).toNat) else none
  | _ => none
def mRng (f : List D → Option (List D)) (m : MA) : MA := bnd m fun ds s => match f ds with
  | some l => .ok l s
  | none => .stuck
theorem ji_range1 {a : Expr} {m : MA} (hg : Gl X "range") (hm : X.mg "range" = none) (ha : JA X W [a] m) (hs : starEach [a] X.env = [(false, eval a X.env)] := by rfl) : JI X W tg (.Call (.Name "range" p) [a] [] pos) (mRng rng1 m) := by
  refine PI.imp (pi_range1 hg hm ha.pa hs) fun σ H Q h => ?_
  obtain ⟨w, rfl, rfl, r, h⟩ := h
  refine run r h fun ds s2 G' vs H' g r' q h' => ?_
  cases hd : rng1 ds with
  | none => rw [hd] at h'; exact h'.elim
  | some l =>
    rw [hd] at h'
    unfold rng1 at hd
    split at hd
    · split at hd
      · rename_i hj
        cases hd
        cases q with
        | cons q1 q2 =>
          cases q1; cases q2
          exact ⟨_, rfl, hj.1, hj.2, fin r' h' itr_r⟩
      · cases hd
    · cases hd
theorem ji_range2 {a b : Expr} {m : MA} (hg : Gl X "range") (hm : X.mg "range" = none) (ha : JA X W [a, b] m) (hs : starEach [a, b] X.env = [(false, eval a X.env), (false, eval b X.env)] := by rfl) (hsb : starEach [b] X.env = [(false, eval b X.env)] := by rfl) : JI X W tg (.Call (.Name "range" p) [a, b] [] pos) (mRng rng2 m) := by
  refine PI.imp (pi_range2 hg hm ha.pa hs hsb) fun σ H Q h => ?_
  obtain ⟨w, rfl, rfl, r, h⟩ := h
  refine run r h fun ds s2 G' vs H' g r' q h' => ?_
  cases hd : rng2 ds with
  | none => rw [hd] at h'; exact h'.elim
  | some l =>
    rw [hd] at h'
    unfold rng2 at hd
    split at hd
    · split at hd
      · rename_i hj
        cases hd
        cases q with
        | cons q1 q2 =>
          cases q1
          cases q2 with
          | cons q2 q3 =>
            cases q2; cases q3
            exact ⟨_, _, rfl, hj, fin r' h' itr_r⟩
      · cases hd
    · cases hd
end
/-! ### for, while -/
def fo (g : MG) (b : MS) : List D → MS
  | [] => ret .nx
  | d :: ds => fun s => match g d with
    | none => .stuck
    | some l => match b (s.puts l) with
      | .ok .nx s2 => fo g b ds s2
      | .ok .ct s2 => fo g b ds s2
      | .ok .bk s2 => .ok .nx s2
      | .ok (.rt d) s2 => .ok (.rt d) s2
      | .exc x s2 => .exc x s2
      | .stuck => .stuck
def mFor (it : MA) (g : MG) (b : MS) : MS := bnd it fun ds => fo g b ds
def wh (t : MT) (b : MS) : Nat → MS
  | 0 => stk
  | n + 1 => bnd t fun c => if c then (fun s => match b s with
      | .ok .nx s2 => wh t b n s2
      | .ok .ct s2 => wh t b n s2
      | .ok .bk s2 => .ok .nx s2
      | .ok (.rt d) s2 => .ok (.rt d) s2
      | .exc x s2 => .exc x s2
      | .stuck => .stuck) else ret .nx
open Classical in
noncomputable def mWhile (t : MT) (b : MS) : MS := fun s => if h : ∃ n, wh t b n s ≠ .stuck then wh t b (Classical.choose h) s else .stuck
section
variable {X : Cx} {W : WX} {tg iter c : Expr} {body : List Stmt} {pos : Pos} {it : MA} {g : MG} {ix : List Nat} {b : MS} {t : MT}
theorem js_for (hp : PassesOwn (model X.prog X.w) X.A X.env X.xe) (hc : X.calm = true) (hi : JI X W tg iter it) (hg : JG X tg g ix) (hb : JSs X W body b) (hs : ∀ x, foldedSetIterable iter X.env x = pure x := by intro _; rfl) :
    JS X W (.For tg iter body [] pos) (mFor it g b) := by
  refine PS.imp (ps_for hp hc hi hg.pg hb hs) fun D σ H h => ?_
  obtain ⟨w, rfl, rfl, r, h⟩ := h
  refine runS r h fun ds s' G' J H' g' r' I h' => ?_
  refine ⟨fun i m σ H => m = ds.length - i ∧ i ≤ ds.length ∧ ∃ w2 : Wd, w2.σ = σ ∧ w2.H = H ∧ Rel X.K X.pn w2 ∧ G'.le w2.G ∧ okS X.K X.pn W w2 D (fo g b (ds.drop i) w2.s), ⟨_, rfl, Nat.zero_le _, { w with G := G', H := H', s := s' }, rfl, rfl, r', .refl _, h'⟩, ?_⟩
  rintro i m σ H ⟨rfl, hi, w2, rfl, rfl, r2, g2, h2⟩
  by_cases hlt : i < ds.length
  · have hd : ds[i]? = some ds[i] := List.getElem?_eq_getElem hlt
    have ed : ds.drop i = ds[i] :: ds.drop (i + 1) := List.drop_eq_getElem_cons hlt
    rw [ed] at h2
    refine .inr ⟨I.go _ _ r2 g2 i hlt, fun σ' H' => ∃ w3 : Wd, w3.σ = σ' ∧ w3.H = H' ∧ Rel X.K X.pn w3 ∧ G'.le w3.G ∧ okS X.K X.pn W w3 D (fo g b (ds.drop (i + 1)) w3.s), fun σ' H' hw => ⟨_, by omega, rfl, hlt, hw⟩, fun x H2 y => ?_⟩
    obtain ⟨G3, g3, r3, p3⟩ := I.yld _ _ r2 g2 i _ x H2 hd y
    unfold fo at h2
    cases hl : g ds[i] with
    | none => simp only [hl] at h2; exact h2.elim
    | some l =>
      simp only [hl] at h2
      refine ⟨X.pn, { w2 with G := G3, H := H2 }, ds[i], l, rfl, r3, p3, hl, fun lv hv => ?_⟩
      have r4 := Rel.sets r3 hv
      refine ⟨_, rfl, rfl, r4, ?_⟩
      show okS X.K X.pn W _ _ (b (w2.s.puts l))
      cases hbb : b (w2.s.puts l) with
      | ok fl s5 =>
        rw [hbb] at h2
        cases fl with
        | nx => exact fun G5 σ5 H5 g5 r5 => ⟨_, rfl, rfl, r5, (g2.trans g3).trans g5, okS.up (w := w2) h2 (g3.trans g5)⟩
        | ct => exact fun G5 σ5 H5 g5 r5 => ⟨_, rfl, rfl, r5, (g2.trans g3).trans g5, okS.up (w := w2) h2 (g3.trans g5)⟩
        | bk => exact fun G5 σ5 H5 g5 r5 => h2 G5 σ5 H5 (g3.trans g5) r5
        | rt d => exact fun G5 σ5 H5 g5 r5 v p => h2 G5 σ5 H5 (g3.trans g5) r5 v p
      | exc x s5 =>
        rw [hbb] at h2
        exact fun G5 σ5 c d H5 g5 r5 p => h2 G5 σ5 c d H5 (g3.trans g5) r5 p
      | stuck =>
        rw [hbb] at h2
        exact h2
  · have e : i = ds.length := by omega
    subst e
    rw [List.drop_length] at h2
    exact .inl ⟨I.stop _ _ r2 g2 _ (Nat.le_refl _), h2 w2.G w2.σ w2.H (.refl _) r2⟩
theorem js_while (hp : PassesOwn (model X.prog X.w) X.A X.env X.xe) (hc : JT X W c t) (hb : JSs X W body b) : JS X W (.While c body [] pos) (mWhile t b) := by
  refine PS.imp (ps_while hp hc hb) fun D σ H h => ?_
  obtain ⟨w, rfl, rfl, r, h⟩ := h
  unfold mWhile at h
  split at h
  · rename_i hx
    generalize Classical.choose hx = n at h
    refine ⟨fun m σ H => ∃ w2 : Wd, w2.σ = σ ∧ w2.H = H ∧ Rel X.K X.pn w2 ∧ okS X.K X.pn W w2 D (wh t b m w2.s), ⟨n, w, rfl, rfl, r, h⟩, ?_⟩
    rintro m σ H ⟨w2, rfl, rfl, r2, h2⟩
    cases m with
    | zero => exact h2.elim
    | succ m =>
      refine runS r2 h2 fun c2 s' G' v H' g r' p h' => ?_
      cases p
      cases c2 with
      | false =>
        simp only [Bool.false_eq_true, if_false] at h' ⊢
        exact h' G' _ H' (.refl _) r'
      | true =>
        simp only [if_true] at h' ⊢
        refine ⟨fun σ' H' => ∃ w3 : Wd, w3.σ = σ' ∧ w3.H = H' ∧ Rel X.K X.pn w3 ∧ okS X.K X.pn W w3 D (wh t b m w3.s), fun σ' H' hw => ⟨m, Nat.lt_succ_self _, hw⟩, ?_⟩
        refine ⟨{ w2 with G := G', H := H', s := s' }, rfl, rfl, r', ?_⟩
        show okS X.K X.pn W _ _ (b s')
        cases hbb : b s' with
        | ok fl s5 =>
          rw [hbb] at h'
          cases fl with
          | nx => exact fun G5 σ5 H5 g5 r5 => ⟨_, rfl, rfl, r5, okS.up (w := { w2 with G := G', H := H', s := s' }) h' g5⟩
          | ct => exact fun G5 σ5 H5 g5 r5 => ⟨_, rfl, rfl, r5, okS.up (w := { w2 with G := G', H := H', s := s' }) h' g5⟩
          | bk => exact fun G5 σ5 H5 g5 r5 => h' G5 σ5 H5 g5 r5
          | rt d => exact fun G5 σ5 H5 g5 r5 v p => h' G5 σ5 H5 g5 r5 v p
        | exc x s5 =>
          rw [hbb] at h'
          exact fun G5 σ5 c d H5 g5 r5 p => h' G5 σ5 c d H5 g5 r5 p
        | stuck =>
          rw [hbb] at h'
          exact h'
  · exact h.elim
end
/-! what mWhile is -/
theorem wh_mono {t : MT} {b : MS} : ∀ {n : Nat} {s : S}, wh t b n s ≠ .stuck → wh t b (n + 1) s = wh t b n s
  | 0, s, h => (h rfl).elim
  | n + 1, s, h => by
    have e1 : wh t b (n + 1 + 1) s = bnd t (fun c => if c then (fun s => match b s with | .ok .nx s2 => wh t b (n + 1) s2 | .ok .ct s2 => wh t b (n + 1) s2 | .ok .bk s2 => .ok .nx s2 | .ok (.rt d) s2 => .ok (.rt d) s2 | .exc x s2 => .exc x s2 | .stuck => .stuck) else ret .nx) s := rfl
    have e2 : wh t b (n + 1) s = bnd t (fun c => if c then (fun s => match b s with | .ok .nx s2 => wh t b n s2 | .ok .ct s2 => wh t b n s2 | .ok .bk s2 => .ok .nx s2 | .ok (.rt d) s2 => .ok (.rt d) s2 | .exc x s2 => .exc x s2 | .stuck => .stuck) else ret .nx) s := rfl
    rw [e1, e2]
    rw [e2] at h
    unfold bnd at h ⊢
    cases ht : t s with
    | exc x s' => rfl
    | stuck => rfl
    | ok c s' =>
      rw [ht] at h
      cases c with
      | false => rfl
      | true =>
        simp only [if_true] at h ⊢
        cases hb : b s' with
        | exc x s2 => rfl
        | stuck => rfl
        | ok fl s2 =>
          simp only [hb] at h
          cases fl with
          | nx => exact wh_mono h
          | ct => exact wh_mono h
          | bk => rfl
          | rt d => rfl
theorem wh_le {t : MT} {b : MS} {n : Nat} {s : S} (h : wh t b n s ≠ .stuck) : ∀ k, wh t b (n + k) s = wh t b n s
  | 0 => rfl
  | k + 1 => by
    have ih := wh_le h k
    rw [← Nat.add_assoc, wh_mono (by rw [ih]; exact h), ih]
theorem mWhile_of {t : MT} {b : MS} {n : Nat} {s : S} (h : wh t b n s ≠ .stuck) : mWhile t b s = wh t b n s := by
  have hx : ∃ n, wh t b n s ≠ .stuck := ⟨n, h⟩
  unfold mWhile
  rw [dif_pos hx]
  have h2 := Classical.choose_spec hx
  generalize Classical.choose hx = k at h2
  rcases Nat.le_total n k with q | q
  · obtain ⟨j, rfl⟩ := Nat.exists_eq_add_of_le q
    exact wh_le h j
  · obtain ⟨j, rfl⟩ := Nat.exists_eq_add_of_le q
    exact (wh_le h2 j).symm
/-- THE EQUATION: one turn -/
theorem mWhile_eq (t : MT) (b : MS) (s : S) : mWhile t b s = bnd t (fun c => if c then (fun s => match b s with
      | .ok .nx s2 => mWhile t b s2
      | .ok .ct s2 => mWhile t b s2
      | .ok .bk s2 => .ok .nx s2
      | .ok (.rt d) s2 => .ok (.rt d) s2
      | .exc x s2 => .exc x s2
      | .stuck => .stuck) else ret .nx) s := by
  by_cases hx : ∃ n, wh t b n s ≠ .stuck
  · obtain ⟨n, hn⟩ := hx
    rw [mWhile_of hn]
    cases n with
    | zero => exact (hn rfl).elim
    | succ n =>
      have e2 : wh t b (n + 1) s = bnd t (fun c => if c then (fun s => match b s with | .ok .nx s2 => wh t b n s2 | .ok .ct s2 => wh t b n s2 | .ok .bk s2 => .ok .nx s2 | .ok (.rt d) s2 => .ok (.rt d) s2 | .exc x s2 => .exc x s2 | .stuck => .stuck) else ret .nx) s := rfl
      rw [e2] at hn ⊢
      unfold bnd at hn ⊢
      cases ht : t s with
      | exc x s' => rfl
      | stuck => rfl
      | ok c s' =>
        rw [ht] at hn
        cases c with
        | false => rfl
        | true =>
          simp only [if_true] at hn ⊢
          cases hb : b s' with
          | exc x s2 => rfl
          | stuck => rfl
          | ok fl s2 =>
            simp only [hb] at hn
            cases fl with
            | nx => exact (mWhile_of hn).symm
            | ct => exact (mWhile_of hn).symm
            | bk => rfl
            | rt d => rfl
  · have e : mWhile t b s = .stuck := by unfold mWhile; rw [dif_neg hx]
    rw [e]
    unfold bnd
    cases ht : t s with
    | exc x s' =>
      exfalso; apply hx; refine ⟨1, ?_⟩
      show bnd t _ s ≠ _
      unfold bnd; rw [ht]; intro z; cases z
    | stuck => rfl
    | ok c s' =>
      cases c with
      | false =>
        exfalso; apply hx; refine ⟨1, ?_⟩
        show bnd t _ s ≠ _
        unfold bnd; rw [ht]; intro z; cases z
      | true =>
        simp only [if_true]
        cases hb : b s' with
        | exc x s2 =>
          exfalso; apply hx; refine ⟨1, ?_⟩
          show bnd t _ s ≠ _
          unfold bnd; rw [ht]; simp only [if_true, hb]; intro z; cases z
        | stuck => rfl
        | ok fl s2 =>
          have key : ∀ n, wh t b n s2 = .stuck ∨ (fl = .bk ∨ ∃ d, fl = .rt d) := by
            intro n
            by_cases q : wh t b n s2 = .stuck
            · exact .inl q
            · right
              cases fl with
              | bk => exact .inl rfl
              | rt d => exact .inr ⟨d, rfl⟩
              | nx =>
                exfalso; apply hx; refine ⟨n + 1, ?_⟩
                show bnd t _ s ≠ _
                unfold bnd; rw [ht]; simp only [if_true, hb]; exact q
              | ct =>
                exfalso; apply hx; refine ⟨n + 1, ?_⟩
                show bnd t _ s ≠ _
                unfold bnd; rw [ht]; simp only [if_true, hb]; exact q
          cases fl with
          | nx =>
            have : ¬ ∃ n, wh t b n s2 ≠ .stuck := fun ⟨n, hn⟩ => by
              rcases key n with z | z | ⟨d, z⟩
              · exact hn z
              · cases z
              · cases z
            show _ = mWhile t b s2
            unfold mWhile; rw [dif_neg this]
          | ct =>
            have : ¬ ∃ n, wh t b n s2 ≠ .stuck := fun ⟨n, hn⟩ => by
              rcases key n with z | z | ⟨d, z⟩
              · exact hn z
              · cases z
              · cases z
            show _ = mWhile t b s2
            unfold mWhile; rw [dif_neg this]
          | bk =>
            exfalso; apply hx; refine ⟨1, ?_⟩
            show bnd t _ s ≠ _
            unfold bnd; rw [ht]; simp only [if_true, hb]; intro z; cases z
          | rt d =>
            exfalso; apply hx; refine ⟨1, ?_⟩
            show bnd t _ s ≠ _
            unfold bnd; rw [ht]; simp only [if_true, hb]; intro z; cases z
end DL

namespace DL
open PySem PySem.Spec PySem.W PySem.Calls L2

/-! ### defs -/
inductive RO where
  | ok (d : D) (st : List Ob) | exc (x : Exc) (st : List Ob) | stuck
abbrev Fn := List D → List Ob → RO
def slots (n : Nat) (ds : List D) : List Slot := ds.map .imm ++ List.replicate (n - ds.length) .emp
def endR : R Fl → RO
  | .ok (.rt d) s => .ok d s.st
  | .ok .nx s => .ok .non s.st
  | .ok _ _ => .stuck
  | .exc x s => .exc x s.st
  | .stuck => .stuck
/-- the def with n names whose body is m -/
def fnM (n : Nat) (m : MS) : Fn := fun ds st => endR (m ⟨slots n ds, st⟩)
/-- the heap and the store at a call -/
structure At (K : PySem.W.Frag) (G : Gh) (H : Hp) (st : List Ob) : Prop where
  ex : ∀ a o, G.F a = some o → H a = some o
  st : StRel K G H st
def okF (K : PySem.W.Frag) (G : Gh) (H : Hp) (Q : VK) (E : XK) : RO → Prop
  | .ok d st' => ∀ G' v H', Le G H G' H' → At K G' H' st' → Rep K G' v d → Q v H'
  | .exc x st' => ∀ G' c d H', Le G H G' H' → At K G' H' st' → XRep K G' c d x → E c d H'
  | .stuck => False
/-- the promise of a def that does f -/
def spF (K : PySem.W.Frag) (n : Nat) (f : Fn) : Sp := fun vs H Q E => ∃ (G : Gh) (ds : List D) (st : List Ob), vs.length = n ∧ At K G H st ∧ Reps K G vs ds ∧ okF K G H Q E (f ds st)
theorem slots_get {n i : Nat} {ds : List D} {x : Slot} (h : (slots n ds)[i]? = some x) : (∃ d, ds[i]? = some d ∧ x = .imm d) ∨ x = .emp := by
  unfold slots at h
  by_cases hl : i < ds.length
  · rw [List.getElem?_append_left (by simpa using hl), List.getElem?_map] at h
    rw [List.getElem?_eq_getElem hl] at h
    cases h
    exact .inl ⟨_, List.getElem?_eq_getElem hl, rfl⟩
  · rw [List.getElem?_append_right (by simpa using hl)] at h
    have := List.mem_of_getElem? h
    exact .inr (List.eq_of_mem_replicate this)
theorem start_get {N : List Str} {vs : List V} {i : Nat} {v : V} (h : vs[i]? = some v) : (L2.start N vs)[i]? = some (some v) := by
  unfold L2.start
  have hl : i < vs.length := (List.getElem?_eq_some_iff.mp h).1
  rw [List.getElem?_append_left (by simpa using hl), List.getElem?_map, h]; rfl
/-- at a def's entry -/
theorem rel_start {K : PySem.W.Frag} {G : Gh} {H : Hp} {st : List Ob} {N : List Str} {vs : List V} {ds : List D} (a : At K G H st) (r : Reps K G vs ds) : Rel K [] ⟨G, H, G, L2.start N vs, H, ⟨slots N.length ds, st⟩, []⟩ := by
  refine ⟨a.ex, Le.refl _ _, a.st, ⟨?_, fun i d h => ?_, fun i es h => ?_, fun i j es fs b h => ?_, fun i x h => ?_⟩, fun q hq => by cases hq⟩
  · show (L2.start N vs).length = (slots N.length ds).length
    unfold L2.start slots
    simp only [List.length_append, List.length_map, List.length_replicate, r.length]
  · rcases slots_get h with ⟨d', e1, e2⟩ | e
    · cases e2
      obtain ⟨v, h1, h2⟩ := r.get e1
      exact ⟨v, start_get h1, h2⟩
    · cases e
  · rcases slots_get h with ⟨d', e1, e2⟩ | e
    · cases e2
    · cases e
  · rcases slots_get h with ⟨d', e1, e2⟩ | e
    · cases e2
    · cases e
  · rcases slots_get h with ⟨d', e1, e2⟩ | e
    · cases e2
    · cases e
section
variable {P : Program} {w : World} {K : PySem.W.Frag} {mg : Str → Option Value} {base : Heap} {x qual : Str} {params : Arguments} {body : List Stmt} {scope : Scope} {dvs : List V} {kws : List (Str × V)} {f : Addr} {fd : FuncData}
/-- THE RULE for a def -/
theorem fn_ok {N ps : List Str} {k : Nat} {m : MS} (F : FunD K x qual params body scope dvs kws f fd) (Sc : FnScope N ps scope)
    (hb : ∀ (cdv : Value) (A : Around) (outer : List Env) (s : Shared) (H : Hp) (E : XK), Room k (A.deeper (PyProof.Rows.envOfC qual scope s.heap.objs.size f cdv)) → JSs (cxOf (L2.CX P w) P w K mg base N qual scope f cdv A outer s H E) (fun c d _ H => E c d H) body m) :
    FnOk P w K mg base (L2.CX P w) (k + 1) f fd ps (spF K ps.length (fnM N.length m)) := by
  refine F.ok Sc (fun vs H Q E h => ?_) (fun cdv A outer s H vs Q E hr h => ⟨_, hb cdv A outer s H E hr, ?_⟩)
  · obtain ⟨G, ds, st, hl, _⟩ := h
    exact hl
  · obtain ⟨G, ds, st, hl, a, r, h⟩ := h
    refine ⟨⟨G, H, G, L2.start N vs, H, ⟨slots N.length ds, st⟩, []⟩, rfl, rfl, rel_start a r, ?_⟩
    show okS K [] _ _ _ (m ⟨slots N.length ds, st⟩)
    unfold fnM at h
    cases hm : m ⟨slots N.length ds, st⟩ with
    | ok fl s' =>
      rw [hm] at h
      cases fl with
      | nx => exact fun G' σ' H' g r' => h G' .non H' r'.le ⟨r'.ex, r'.st⟩ .non
      | rt d => exact fun G' σ' H' g r' v p => h G' v H' r'.le ⟨r'.ex, r'.st⟩ p
      | bk => exact h.elim
      | ct => exact h.elim
    | exc e s' =>
      rw [hm] at h
      exact fun G' σ' c d H' g r' p => h G' c d H' r'.le ⟨r'.ex, r'.st⟩ p
    | stuck =>
      rw [hm] at h
      exact h
end
/-- the end of a call, from the caller's side -/
def outR (s : S) : RO → R D
  | .ok d st => .ok d { s with st := st }
  | .exc x st => .exc x { s with st := st }
  | .stuck => .stuck
def mCall (f : Fn) (m : MA) : ME := bnd m fun ds s => outR s (f ds s.st)
theorem Rel.after {K : PySem.W.Frag} {pn : List (Addr × Obj)} {w : Wd} {G' : Gh} {H' : Hp} {st' : List Ob} (r : Rel K pn w) (l : Le w.G w.H G' H') (a : At K G' H' st') : Rel K pn { w with G := G', H := H', s := { w.s with st := st' } } := by
  refine ⟨a.ex, r.le.trans l, a.st, ⟨r.sl.len, fun i d h => ?_, fun i ds h => ?_, r.sl.dis, fun i x h => ?_⟩, fun q hq => ?_⟩
  · obtain ⟨v, h1, h2⟩ := r.sl.imm i d h
    exact ⟨v, h1, h2.mono l.g⟩
  · obtain ⟨b, vs, h1, h2, h3, h4, h5, h6⟩ := r.sl.own i ds h
    refine ⟨b, vs, h1, l.kp _ _ h2 h5, h3.mono l.g, ?_, fun m => ?_, h6⟩
    · cases q : G'.F b with
      | none => rfl
      | some o =>
        rcases l.fz b o q with z | z | ⟨_, _, _, z⟩
        · rw [h4] at z; cases z
        · rw [h2] at z; cases z
        · cases z _ h2
    · rcases l.nw b m with z | z
      · exact h5 z
      · rw [h2] at z; cases z
  · obtain ⟨b, oe, tl, cls, d, h1, h2, h3, h4⟩ := r.sl.xn i x h
    exact ⟨b, oe, tl, cls, d, h1, h2, h3, h4.mono l.g⟩
  · obtain ⟨p1, p2, p3, p4⟩ := r.pr q hq
    refine ⟨l.kp _ _ p1 p3.1, ?_, ⟨fun m => ?_, p3.2⟩, p4⟩
    · cases z : G'.F q.1 with
      | none => rfl
      | some o =>
        rcases l.fz _ _ z with y | y | ⟨_, _, _, y⟩
        · rw [p2] at y; cases y
        · rw [p1] at y; cases y
        · have e := p3.2
          rw [y _ p1] at e
          cases e
    · rcases l.nw _ m with y | y
      · exact p3.1 y
      · rw [p1] at y; cases y
section
variable {X : Cx} {W : WX} {k : Nat} {f : Addr} {fd : FuncData} {ps : List Str} {fn : Fn} {x : Str} {p pos : Pos} {e : Expr} {es : List Expr} {m : MA} {dds : List D} {dvs : List V} {ds : List Value}
/-- the callee's side, from a state of the caller -/
theorem call_run {w : Wd} {vs : List V} {as : List D} {n : Nat} {Q : VK} (r : Rel X.K X.pn w) (q : Reps X.K w.G vs as) (hn : vs.length = n) (h : okG X.K X.pn W (AR X.K) w Q (outR w.s (fn as w.s.st))) : spF X.K n fn vs w.H Q (WE W w.σ) := by
  refine ⟨w.G, as, w.s.st, hn, ⟨r.ex, r.st⟩, q, ?_⟩
  cases hf : fn as w.s.st with
  | ok d st' =>
    rw [hf] at h
    exact fun G' v H' l a p => h G' v H' l.g (r.after l a) p
  | exc y st' =>
    rw [hf] at h
    exact fun G' c d H' l a p => h G' c d H' l.g (r.after l a) p
  | stuck =>
    rw [hf] at h
    exact h
/-- f(e, ..); dds: the defaults that fill up -/
theorem je_callD (F : FnOk X.prog X.w X.K X.mg X.base (L2.CX X.prog X.w) k f fd ps (spF X.K ps.length fn)) (hr : Room k X.A) (tk : Takes X W) (hg : Gl X x) (hm : X.mg x = some (.ref f)) (hk : PySem.W.keepIn X.K (.ref f) = true) (hb : Binds X.K fd ps ds) (hd : Vals dvs ds) (hdd : ∀ G, Reps X.K G dvs dds)
    (ha : JA X W (e :: es) m) (hl : (e :: es).length + dds.length = ps.length := by rfl) (hdb : (x == ("__debug__" : Str)) = false := by decide) (he : starEach (e :: es) X.env = (false, eval e X.env) :: starEach es X.env := by rfl) (hpl : (backTo pos (starEach es X.env)).any (·.1) = false := by rfl) :
    JE X W (.Call (.Name x p) (e :: es) [] pos) (mCall (fun as => fn (as ++ dds)) m) := by
  refine PE.imp (pe_callSD (E := WE W) F hr hg hm hk hb hd (fun σ => passAt tk σ) ha.pa hdb he hpl) fun σ H Q h => ?_
  obtain ⟨w, rfl, rfl, r, h⟩ := h
  refine run' r h fun as s' G' vs H' hm2 g r' q h' => ?_
  refine call_run (fn := fn) (w := { w with G := G', H := H', s := s' }) r' (q.append (hdd _)) ?_ h'
  rw [List.length_append, q.length, ha.len _ _ _ hm2, (hdd G').length]
  exact hl
theorem je_call (F : FnOk X.prog X.w X.K X.mg X.base (L2.CX X.prog X.w) k f fd ps (spF X.K ps.length fn)) (hr : Room k X.A) (tk : Takes X W) (hg : Gl X x) (hm : X.mg x = some (.ref f)) (hk : PySem.W.keepIn X.K (.ref f) = true) (hb : Binds X.K fd ps [])
    (ha : JA X W (e :: es) m) (hl : (e :: es).length = ps.length := by rfl) (hdb : (x == ("__debug__" : Str)) = false := by decide) (he : starEach (e :: es) X.env = (false, eval e X.env) :: starEach es X.env := by rfl) (hpl : (backTo pos (starEach es X.env)).any (·.1) = false := by rfl) :
    JE X W (.Call (.Name x p) (e :: es) [] pos) (mCall fn m) := by
  refine PE.imp (pe_callSD (E := WE W) F hr hg hm hk hb (Paired.nil) (fun σ => passAt tk σ) ha.pa hdb he hpl) fun σ H Q h => ?_
  obtain ⟨w, rfl, rfl, r, h⟩ := h
  refine run' r h fun as s' G' vs H' hm2 g r' q h' => ?_
  refine call_run (fn := fn) (w := { w with G := G', H := H', s := s' }) r' (by rw [List.append_nil]; exact q) ?_ h'
  rw [List.append_nil, q.length, ha.len _ _ _ hm2]
  exact hl
end
end DL

namespace DL
open PySem PySem.Spec L2

/-! ### items -/
def ixD : D → D → Option D
  | .tup ds, .int i => atI ds i
  | .lst ds, .int i => atI ds i
  | .kl ds, .int i => atI ds i
  | .str x, .int i => if few x.length then (atI x.cps.toList i).map fun c => .str ⟨#[c]⟩ else none
  | _, _ => none
theorem Reps.atI {K : PySem.W.Frag} {G : Gh} {vs : List V} {ds : List D} {i : Int} {d : D} (r : Reps K G vs ds) (h : L2.atI ds i = some d) : ∃ v, L2.atI vs i = some v ∧ Rep K G v d := by
  unfold L2.atI at h ⊢
  rw [r.length]
  cases hx : ixN ds.length i with
  | none => rw [hx] at h; cases h
  | some j =>
    rw [hx] at h
    exact r.get h
theorem k_ix {K : PySem.W.Frag} : R2Ok K (rIx K) ixD := by
  intro pn w x y d e z Q r p1 p2 hz k
  unfold ixD at hz
  split at hz
  · cases p2
    cases p1 with
    | tup hs rs =>
      obtain ⟨v, h1, h2⟩ := rs.atI hz
      exact .inr (.inl ⟨_, _, _, v, rfl, rfl, tqT r.ex hs, h1, k _ _ _ (.refl _) r h2⟩)
  · cases p2
    cases p1 with
    | lst hs rs =>
      obtain ⟨v, h1, h2⟩ := rs.atI hz
      exact .inl ⟨_, _, _, v, rfl, rfl, SqL.of (r.ex _ _ hs), h1, k _ _ _ (.refl _) r h2⟩
  · cases p2
    cases p1 with
    | kl hs rs =>
      obtain ⟨v, h1, h2⟩ := rs.atI hz
      exact .inl ⟨_, _, _, v, rfl, rfl, sqL_mono r.ex hs, h1, k _ _ _ (.refl _) r h2⟩
  · rename_i z i
    cases p1; cases p2
    split at hz
    · rename_i hf
      cases hc : L2.atI z.cps.toList i with
      | none => rw [hc] at hz; cases hz
      | some c =>
        rw [hc] at hz; cases hz
        exact .inr (.inr ⟨_, _, c, rfl, rfl, hf.line, hc, k _ _ _ (.refl _) r (.str _)⟩)
    · cases hz
  · cases hz
/-- what stands in a slot now -/
def cur (s : S) (i : Nat) : Option D := match s.sl[i]? with
  | some (.imm d) => some d
  | some (.own ds) => some (.lst ds)
  | _ => none
def mIxV (i : Nat) (m : ME) : ME := bnd m fun e s => match cur s i with
  | some d => lift (ixD d e) s
  | none => .stuck
def mIxN (i : Nat) (m : ME) : ME := fun s => match cur s i with
  | some _ => mIxV i m s
  | none => .stuck
section
variable {X : Cx} {W : WX} {a b : Expr} {ma mb : ME} {pos p : Pos}
theorem je_ix (ha : JE X W a ma) (hb : JE X W b mb) (hs : PlainIx b := by exact fun _ _ => rfl) : JE X W (.Subscript a b pos) (mBin ixD ma mb) :=
  PE.imp (pe_ix ix_seq ha hb hs) fun _ _ _ h => r2_run k_ix h
theorem vis_slot {x : Str} {i : Nat} (hN : X.N[i]? = some x) (hv : Vis X.env.scope x) (hd : (x == ("__debug__" : Str)) = false) (hcd : (x == ("__classdict__" : Str)) = false) : PE X (.Name x pos) (tVar i) := pv i hN hv hd hcd
/-- the slot's value behind an expression -/
theorem slot_val {K : PySem.W.Frag} {pn : List (Addr × Obj)} {w : Wd} {i : Nat} {d : D} (r : Rel K pn w) (h : cur w.s i = some d) : ∃ v, w.σ[i]? = some (some v) ∧ (Rep K w.G v d ∨ ∃ a vs ds, v = .ref a ∧ d = .lst ds ∧ w.H a = some (.lst vs) ∧ Reps K w.G vs ds) := by
  unfold cur at h
  split at h
  · cases h
    rename_i e
    obtain ⟨v, h1, h2⟩ := r.sl.imm i _ e
    exact ⟨v, h1, .inl h2⟩
  · cases h
    rename_i e
    obtain ⟨b, vs, h1, h2, h3, _⟩ := r.sl.own i _ e
    exact ⟨_, h1, .inr ⟨b, vs, _, rfl, rfl, h2, h3⟩⟩
  · cases h
theorem je_ixV (i : Nat) {x : Str} (hb : JE X W b mb) (hs : PlainIx b := by exact fun _ _ => rfl) (hN : X.N[i]? = some x := by rfl) (hv : Vis X.env.scope x := by first | exact Or.inl rfl | exact Or.inr (Or.inl rfl) | exact Or.inr (Or.inr rfl)) (hd : (x == ("__debug__" : Str)) = false := by decide) (hcd : (x == ("__classdict__" : Str)) = false := by decide) :
    JE X W (.Subscript (.Name x p) b pos) (mIxN i mb) := by
  refine PE.imp (pe_ix ix_seq (pv i hN hv hd hcd) hb hs) fun σ H Q h => ?_
  obtain ⟨w, rfl, rfl, r, h⟩ := h
  unfold mIxN at h
  cases hc : cur w.s i with
  | none => simp only [hc] at h; exact h.elim
  | some d0 =>
    simp only [hc] at h
    obtain ⟨v, h1, _⟩ := slot_val r hc
    refine ⟨v, h1, ?_⟩
    refine run r h fun e s' G' y H' g r' p h' => ?_
    cases hc2 : cur s' i with
    | none => simp only [hc2] at h'; exact h'.elim
    | some d =>
      simp only [hc2] at h'
      obtain ⟨v2, h2, h3⟩ := slot_val r' hc2
      have h2 : w.σ[i]? = some (some v2) := h2
      rw [h1] at h2
      cases h2
      cases hz : ixD d e with
      | none => rw [hz] at h'; exact h'.elim
      | some z =>
        rw [hz] at h'
        rcases h3 with h3 | ⟨a, vs, ds, rfl, rfl, h4, h5⟩
        · exact k_ix X.pn _ v y d e z Q r' h3 p hz fun G3 y H3 g3 r3 p3 => h' G3 y H3 g3 r3 p3
        · unfold ixD at hz
          split at hz
          · rename_i heq; cases heq
          · rename_i heq
            cases heq
            cases p
            obtain ⟨u, e1, e2⟩ := h5.atI hz
            exact .inl ⟨_, _, _, u, rfl, rfl, SqL.of h4, e1, h' _ _ _ (.refl _) r' e2⟩
          · rename_i heq; cases heq
          · rename_i heq; cases heq
          · cases hz
end

/-! ### calls of built-ins with one argument that is only looked at -/
/-- a value that stands for d: frozen, or a list that a slot owns -/
def AL (K : PySem.W.Frag) : Wd → V → D → Prop := fun w v d => Rep K w.G v d ∨ ∃ a vs ds, v = .ref a ∧ d = .lst ds ∧ w.H a = some (.lst vs) ∧ Reps K w.G vs ds
def JB (X : Cx) (W : WX) (e : Expr) (m : ME) : Prop := PE X e (tG X.K X.pn W (AL X.K) m)
def mLook (i : Nat) : ME := fun s => match cur s i with
  | some d => .ok d s
  | none => .stuck
section
variable {X : Cx} {W : WX} {e : Expr} {m : ME} {pos p : Pos} {x : Str}
theorem jb_of (h : JE X W e m) : JB X W e m := by
  refine PE.imp h fun σ H Q h => ?_
  obtain ⟨w, rfl, rfl, r, h⟩ := h
  refine ⟨w, rfl, rfl, r, ?_⟩
  cases hm : m w.s with
  | ok d s' => rw [hm] at h; exact fun G' v H' g r' p => h G' v H' g r' (.inl p)
  | exc y s' => rw [hm] at h; exact h
  | stuck => rw [hm] at h; exact h
theorem jb_var (i : Nat) (hN : X.N[i]? = some x := by rfl) (hv : Vis X.env.scope x := by first | exact Or.inl rfl | exact Or.inr (Or.inl rfl) | exact Or.inr (Or.inr rfl)) (hd : (x == ("__debug__" : Str)) = false := by decide) (hcd : (x == ("__classdict__" : Str)) = false := by decide) : JB X W (.Name x pos) (mLook i) := by
  refine PE.imp (pv i hN hv hd hcd) fun σ H Q h => ?_
  obtain ⟨w, rfl, rfl, r, h⟩ := h
  unfold mLook at h
  cases hc : cur w.s i with
  | none => rw [hc] at h; exact h.elim
  | some d =>
    rw [hc] at h
    obtain ⟨v, h1, h2⟩ := slot_val r hc
    exact ⟨v, h1, h w.G v w.H (.refl _) r h2⟩
/-- a new list, only looked at -/
theorem jb_new {m : MA} (h : JF X W e m) : JB X W e (bnd m fun ds => ret (.lst ds)) := by
  refine PE.imp h fun σ H Q h => ?_
  obtain ⟨w, rfl, rfl, r, h⟩ := h
  refine run r h fun ds s' G' v H' g r' a h' => ?_
  obtain ⟨b, vs, rfl, h1, h2, _⟩ := a
  exact fin r' h' (.inr ⟨b, vs, ds, rfl, rfl, h1, h2⟩)
/-- r on one value does what f does -/
def R1Ok (K : PySem.W.Frag) (r : List V → Hp → VK → Prop) (f : D → Option D) : Prop := ∀ (pn : List (Addr × Obj)) (w : Wd) (x : V) (d z : D) (Q : VK), Rel K pn w → AL K w x d → f d = some z → (∀ G' v H', w.G.le G' → Rel K pn { w with G := G', H := H' } → Rep K G' v z → Q v H') → r [x] w.H Q
def R1OkF (K : PySem.W.Frag) (r : List V → Hp → VK → Prop) (f : D → Option (List D)) : Prop := ∀ (pn : List (Addr × Obj)) (w : Wd) (x : V) (d : D) (z : List D) (Q : VK), Rel K pn w → AL K w x d → f d = some z → (∀ G' v H', w.G.le G' → Rel K pn { w with G := G', H := H' } → AF K { w with G := G', H := H' } v z → Q v H') → r [x] w.H Q
def mUnF (f : D → Option (List D)) (m : ME) : MA := bnd m fun d s => match f d with
  | some z => .ok z s
  | none => .stuck
theorem r1_run {r : List V → Hp → VK → Prop} {f : D → Option D} {σ : L2.St} {H : Hp} {Q : VK} (hr : R1Ok X.K r f) (h : tG X.K X.pn W (AR X.K) (mUn f m) σ H Q) : tCB r (tCons (tG X.K X.pn W (AL X.K) m) tNil) σ H Q := by
  obtain ⟨w, rfl, rfl, r0, h⟩ := h
  refine run r0 h fun d s' G' v H' g r' p h' => ?_
  cases hz : f d with
  | none => rw [hz] at h'; exact h'.elim
  | some z =>
    rw [hz] at h'
    exact hr X.pn _ v d z Q r' p hz fun G3 y H3 g3 r3 p3 => h' G3 y H3 g3 r3 p3
theorem r1_runF {r : List V → Hp → VK → Prop} {f : D → Option (List D)} {σ : L2.St} {H : Hp} {Q : VK} (hr : R1OkF X.K r f) (h : tG X.K X.pn W (AF X.K) (mUnF f m) σ H Q) : tCB r (tCons (tG X.K X.pn W (AL X.K) m) tNil) σ H Q := by
  obtain ⟨w, rfl, rfl, r0, h⟩ := h
  refine run r0 h fun d s' G' v H' g r' p h' => ?_
  cases hz : f d with
  | none => rw [hz] at h'; exact h'.elim
  | some z =>
    rw [hz] at h'
    exact hr X.pn _ v d z Q r' p hz fun G3 y H3 g3 r3 p3 => h' G3 y H3 g3 r3 p3
variable {r : List V → Hp → VK → Prop} {f : D → Option D} {ff : D → Option (List D)} {id T : String}
theorem je_b1 (hc : CallR X (.builtin id) r) (hr : R1Ok X.K r f) (hg : Gl X x) (hm : X.mg x = none) (hv : bootBuiltins x = some (.builtin id)) (h : JB X W e m) (hn : x ≠ "__name__" := by decide) (hdb : (x == ("__debug__" : Str)) = false := by decide)
    (hs : starEach [e] X.env = (false, eval e X.env) :: starEach [] X.env := by rfl) (h1 : starEach [e] X.env = (false, eval e X.env) :: starEach [] X.env := by rfl) (h2 : (backTo pos (starEach [] X.env)).any (·.1) = false := by rfl) :
    JE X W (.Call (.Name x p) [e] [] pos) (mUn f m) := PE.imp (pe_callB hc hg hm hv (pa_cons h pa_nil hs) hn hdb h1 h2) fun _ _ _ h => r1_run hr h
theorem je_t1 (hc : CallR X (.type T) r) (hr : R1Ok X.K r f) (hg : Gl X x) (hm : X.mg x = none) (hv : bootBuiltins x = some (.type T)) (h : JB X W e m) (hn : x ≠ "__name__" := by decide) (hdb : (x == ("__debug__" : Str)) = false := by decide)
    (hs : starEach [e] X.env = (false, eval e X.env) :: starEach [] X.env := by rfl) (h1 : starEach [e] X.env = (false, eval e X.env) :: starEach [] X.env := by rfl) (h2 : (backTo pos (starEach [] X.env)).any (·.1) = false := by rfl) :
    JE X W (.Call (.Name x p) [e] [] pos) (mUn f m) := PE.imp (pe_callTy hc hg hm hv (pa_cons h pa_nil hs) hn hdb h1 h2) fun _ _ _ h => r1_run hr h
theorem jf_b1 (hc : CallR X (.builtin id) r) (hr : R1OkF X.K r ff) (hg : Gl X x) (hm : X.mg x = none) (hv : bootBuiltins x = some (.builtin id)) (h : JB X W e m) (hn : x ≠ "__name__" := by decide) (hdb : (x == ("__debug__" : Str)) = false := by decide)
    (hs : starEach [e] X.env = (false, eval e X.env) :: starEach [] X.env := by rfl) (h1 : starEach [e] X.env = (false, eval e X.env) :: starEach [] X.env := by rfl) (h2 : (backTo pos (starEach [] X.env)).any (·.1) = false := by rfl) :
    JF X W (.Call (.Name x p) [e] [] pos) (mUnF ff m) := PE.imp (pe_callB hc hg hm hv (pa_cons h pa_nil hs) hn hdb h1 h2) fun _ _ _ h => r1_runF hr h
theorem jf_t1 (hc : CallR X (.type T) r) (hr : R1OkF X.K r ff) (hg : Gl X x) (hm : X.mg x = none) (hv : bootBuiltins x = some (.type T)) (h : JB X W e m) (hn : x ≠ "__name__" := by decide) (hdb : (x == ("__debug__" : Str)) = false := by decide)
    (hs : starEach [e] X.env = (false, eval e X.env) :: starEach [] X.env := by rfl) (h1 : starEach [e] X.env = (false, eval e X.env) :: starEach [] X.env := by rfl) (h2 : (backTo pos (starEach [] X.env)).any (·.1) = false := by rfl) :
    JF X W (.Call (.Name x p) [e] [] pos) (mUnF ff m) := PE.imp (pe_callTy hc hg hm hv (pa_cons h pa_nil hs) hn hdb h1 h2) fun _ _ _ h => r1_runF hr h
end
/-! what they do -/
section
variable {K : PySem.W.Frag}
theorem AL.sq {pn : List (Addr × Obj)} {w : Wd} {x : V} {d : D} {ds : List D} (r : Rel K pn w) (p : AL K w x d) (h : itD d = some ds) : ∃ a vs, x = .ref a ∧ (SqL K w.H a vs ∨ SqT K w.H a vs) ∧ (isTup d = false → SqL K w.H a vs) ∧ (isTup d = true → SqT K w.H a vs) ∧ Reps K w.G vs ds := by
  rcases p with p | ⟨a, vs, es, rfl, rfl, h1, h2⟩
  · cases ht : isTup d with
    | false =>
      obtain ⟨a, vs, rfl, hs, rs⟩ := rep_sq p h ht
      exact ⟨a, vs, rfl, .inl (sqL_mono r.ex hs), fun _ => sqL_mono r.ex hs, (fun z => by cases z), rs⟩
    | true =>
      obtain ⟨a, vs, rfl, hs, rs⟩ := rep_st p h ht
      exact ⟨a, vs, rfl, .inr (tqT r.ex hs), (fun z => by cases z), fun _ => tqT r.ex hs, rs⟩
  · cases h
    exact ⟨a, vs, rfl, .inl (SqL.of h1), fun _ => SqL.of h1, (fun z => by cases z), h2⟩
def fLen : D → Option D
  | .str x => if few x.length then some (.int x.length) else none
  | d => (itD d).map fun ds => .int ds.length
theorem k_len : R1Ok K (fun xs H Q => ∃ x n, xs = [x] ∧ LenV K x H n ∧ Q (.int n) H) fLen := by
  intro pn w x d z Q r p hz k
  unfold fLen at hz
  split at hz
  · rename_i y
    split at hz
    · rename_i hf
      cases hz
      rcases p with p | ⟨a, vs, es, rfl, he, _⟩
      · cases p
        exact ⟨_, _, rfl, ⟨hf.line, rfl⟩, k _ _ _ (.refl _) r (.int _)⟩
      · cases he
    · cases hz
  · cases hi : itD d with
    | none => rw [hi] at hz; cases hz
    | some ds =>
      rw [hi] at hz; cases hz
      obtain ⟨a, vs, rfl, hq, _, _, rs⟩ := AL.sq r p hi
      refine ⟨_, ds.length, rfl, ?_, k _ _ _ (.refl _) r (.int _)⟩
      rw [← rs.length]
      rcases hq with hq | hq
      · exact .inl ⟨_, hq, rfl⟩
      · exact .inr ⟨_, hq, rfl⟩
theorem k_list : R1OkF K (fun xs H Q => ∃ p ys, xs = [.ref p] ∧ (SqL K H p ys ∨ SqT K H p ys) ∧ ∀ l, H l = none → Q (.ref l) (upd H l (.lst ys))) itD := by
  intro pn w x d z Q r p hz k
  obtain ⟨a, vs, rfl, hq, _, _, rs⟩ := AL.sq r p hz
  exact ⟨a, vs, rfl, hq, fun l hl => k _ _ _ (.refl _) (r.alloc hl) (AF.new r hl rs)⟩
def fTuple (d : D) : Option D := (itD d).map .tup
theorem k_tuple : R1Ok K (fun xs H Q => ∃ p ys, xs = [.ref p] ∧ ((SqL K H p ys ∧ ∀ l, H l = none → Q (.ref l) (upd H l (.tup ys))) ∨ (SqT K H p ys ∧ Q (.ref p) H))) fTuple := by
  intro pn w x d z Q r p hz k
  unfold fTuple at hz
  cases hi : itD d with
  | none => rw [hi] at hz; cases hz
  | some ds =>
    rw [hi] at hz; cases hz
    cases ht : isTup d with
    | false =>
      obtain ⟨a, vs, rfl, _, hq, _, rs⟩ := AL.sq r p hi
      refine ⟨a, vs, rfl, .inl ⟨hq ht, fun l hl => ?_⟩⟩
      have hn : w.G.F l = none := r.noF hl
      exact k _ _ _ (gle_upd hn) (r.new hl) (.tup upd_same (rs.mono (gle_upd hn)))
    | true =>
      rcases p with p | ⟨a, vs, es, rfl, rfl, _⟩
      · obtain ⟨a, vs, rfl, hs, rs⟩ := rep_st p hi ht
        exact ⟨a, vs, rfl, .inr ⟨tqT r.ex hs, k _ _ _ (.refl _) r (.tup hs rs)⟩⟩
      · cases ht
/-- all items are bools -/
def blsD : List D → Option (List Bool)
  | [] => some []
  | .bl b :: r => (blsD r).map (b :: ·)
  | _ => none
theorem bls_v {G : Gh} : ∀ {vs : List V} {ds : List D} {bs : List Bool}, Reps K G vs ds → blsD ds = some bs → vs = bs.map V.bl
  | _, _, _, .nil, h => by cases h; rfl
  | _, _, bs, .cons (d := d) (ds := ds) p r, h => by
    cases d with
    | bl b =>
      unfold blsD at h
      cases hb : blsD ds with
      | none => rw [hb] at h; cases h
      | some cs =>
        rw [hb] at h; cases h
        cases p
        rw [bls_v r hb]; rfl
    | _ => cases h
def fAll : D → Option D
  | .lst ds => (blsD ds).map fun bs => .bl (bs.all id)
  | _ => none
def fAny : D → Option D
  | .lst ds => (blsD ds).map fun bs => .bl (bs.any id)
  | _ => none
theorem AL.lst {pn : List (Addr × Obj)} {w : Wd} {x : V} {ds : List D} (r : Rel K pn w) (p : AL K w x (.lst ds)) : ∃ a vs, x = .ref a ∧ SqL K w.H a vs ∧ Reps K w.G vs ds := by
  obtain ⟨a, vs, rfl, _, hq, _, rs⟩ := AL.sq r p rfl
  exact ⟨a, vs, rfl, hq rfl, rs⟩
theorem k_all : R1Ok K (rAll K) fAll := by
  intro pn w x d z Q r p hz k
  unfold fAll at hz
  split at hz
  · rename_i ds
    cases hb : blsD ds with
    | none => rw [hb] at hz; cases hz
    | some bs =>
      rw [hb] at hz; cases hz
      obtain ⟨a, vs, rfl, hq, rs⟩ := AL.lst r p
      have e := bls_v rs hb
      subst e
      exact ⟨a, bs, rfl, hq, k _ _ _ (.refl _) r (.bl _)⟩
  · cases hz
theorem k_any : R1Ok K (rAny K) fAny := by
  intro pn w x d z Q r p hz k
  unfold fAny at hz
  split at hz
  · rename_i ds
    cases hb : blsD ds with
    | none => rw [hb] at hz; cases hz
    | some bs =>
      rw [hb] at hz; cases hz
      obtain ⟨a, vs, rfl, hq, rs⟩ := AL.lst r p
      have e := bls_v rs hb
      subst e
      exact ⟨a, bs, rfl, hq, k _ _ _ (.refl _) r (.bl _)⟩
  · cases hz
/-- all items are ints -/
def intsD? : List D → Option (List Int)
  | [] => some []
  | .int b :: r => (intsD? r).map (b :: ·)
  | _ => none
theorem ints_v {G : Gh} : ∀ {vs : List V} {ds : List D} {bs : List Int}, Reps K G vs ds → intsD? ds = some bs → vs = bs.map V.int
  | _, _, _, .nil, h => by cases h; rfl
  | _, _, bs, .cons (d := d) (ds := ds) p r, h => by
    cases d with
    | int b =>
      unfold intsD? at h
      cases hb : intsD? ds with
      | none => rw [hb] at h; cases h
      | some cs =>
        rw [hb] at h; cases h
        cases p
        rw [ints_v r hb]; rfl
    | _ => cases h
theorem ints_rep {G : Gh} : ∀ (ns : List Int), Reps K G (ns.map V.int) (ns.map D.int)
  | [] => .nil
  | n :: ns => .cons (.int n) (ints_rep ns)
def fSum : D → Option D
  | .lst ds => (intsD? ds).map fun ns => .int ns.sum
  | _ => none
theorem k_sum : R1Ok K (rSum K) fSum := by
  intro pn w x d z Q r p hz k
  unfold fSum at hz
  split at hz
  · rename_i ds
    cases hb : intsD? ds with
    | none => rw [hb] at hz; cases hz
    | some bs =>
      rw [hb] at hz; cases hz
      obtain ⟨a, vs, rfl, hq, rs⟩ := AL.lst r p
      have e := ints_v rs hb
      subst e
      exact ⟨a, bs, rfl, hq, k _ _ _ (.refl _) r (.int _)⟩
  · cases hz
/-- sorted ints -/
def sortI (ns : List Int) : List Int := ns.mergeSort (fun a b => decide (a ≤ b))
theorem sortI_perm (ns : List Int) : (sortI ns).Perm ns := List.mergeSort_perm ns _
theorem sortI_sorted (ns : List Int) : (sortI ns).Pairwise (· ≤ ·) := by
  have h := List.pairwise_mergeSort (le := fun (a b : Int) => decide (a ≤ b)) (fun a b c h1 h2 => by simp at *; omega) (fun a b => by simp; omega) ns
  exact h.imp fun h => by simpa using h
theorem perm_sorted_eq : ∀ {l l' : List Int}, l.Perm l' → l.Pairwise (· ≤ ·) → l'.Pairwise (· ≤ ·) → l = l'
  | [], l', h, _, _ => (List.nil_perm.mp h).symm
  | a :: l, [], h, _, _ => by have := h.length_eq; simp at this
  | a :: l, b :: l', h, h1, h2 => by
    have hab : a = b := by
      have m1 : a ∈ b :: l' := h.subset List.mem_cons_self
      have m2 : b ∈ a :: l := h.symm.subset List.mem_cons_self
      rcases List.mem_cons.mp m1 with e | e
      · exact e
      · rcases List.mem_cons.mp m2 with e' | e'
        · exact e'.symm
        · have x1 := (List.pairwise_cons.mp h1).1 b e'
          have x2 := (List.pairwise_cons.mp h2).1 a e
          omega
    subst hab
    rw [perm_sorted_eq (List.Perm.cons_inv h) (List.pairwise_cons.mp h1).2 (List.pairwise_cons.mp h2).2]
def fSortI : D → Option (List D)
  | .lst ds => (intsD? ds).map fun ns => (sortI ns).map D.int
  | _ => none
theorem k_sortI : R1OkF K (rSortedI K) fSortI := by
  intro pn w x d z Q r p hz k
  unfold fSortI at hz
  split at hz
  · rename_i ds
    cases hb : intsD? ds with
    | none => rw [hb] at hz; cases hz
    | some bs =>
      rw [hb] at hz; cases hz
      obtain ⟨a, vs, rfl, hq, rs⟩ := AL.lst r p
      have e := ints_v rs hb
      subst e
      refine ⟨a, bs, rfl, hq, fun ns' q hp hs hn => ?_⟩
      have e : ns' = sortI bs := perm_sorted_eq (hp.trans (sortI_perm bs).symm) hs (sortI_sorted bs)
      subst e
      exact k _ _ _ (.refl _) (r.alloc hn) (AF.new r hn (ints_rep _))
  · cases hz
def fAbs : D → Option D
  | .int i => some (.int (if i < 0 then -i else i))
  | _ => none
theorem AL.rep {w : Wd} {x : V} {d : D} (p : AL K w x d) (h : ∀ ds, d ≠ .lst ds) : Rep K w.G x d := by
  rcases p with p | ⟨a, vs, es, rfl, he, _⟩
  · exact p
  · exact (h _ he).elim
theorem k_abs : R1Ok K (fun xs H Q => ∃ i, xs = [.int i] ∧ Q (.int (if i < 0 then -i else i)) H) fAbs := by
  intro pn w x d z Q r p hz k
  unfold fAbs at hz
  split at hz
  · cases hz
    have p := p.rep (fun _ => by simp)
    cases p
    exact ⟨_, rfl, k _ _ _ (.refl _) r (.int _)⟩
  · cases hz
def fInt : D → Option D
  | .int i => some (.int i)
  | .bl b => some (.int (if b then 1 else 0))
  | _ => none
theorem k_int : R1Ok K (fun xs H Q => (∃ i, xs = [.int i] ∧ Q (.int i) H) ∨ ∃ k, xs = [.bl k] ∧ Q (.int (if k then 1 else 0)) H) fInt := by
  intro pn w x d z Q r p hz k
  unfold fInt at hz
  split at hz
  · cases hz
    have p := p.rep (fun _ => by simp)
    cases p
    exact .inl ⟨_, rfl, k _ _ _ (.refl _) r (.int _)⟩
  · cases hz
    have p := p.rep (fun _ => by simp)
    cases p
    exact .inr ⟨_, rfl, k _ _ _ (.refl _) r (.int _)⟩
  · cases hz
def fBool : D → Option D
  | .int i => some (.bl (i != 0))
  | .bl b => some (.bl b)
  | _ => none
theorem k_bool : R1Ok K (fun xs H Q => (∃ i, xs = [.int i] ∧ Q (.bl (i != 0)) H) ∨ ∃ k, xs = [.bl k] ∧ Q (.bl k) H) fBool := by
  intro pn w x d z Q r p hz k
  unfold fBool at hz
  split at hz
  · cases hz
    have p := p.rep (fun _ => by simp)
    cases p
    exact .inl ⟨_, rfl, k _ _ _ (.refl _) r (.bl _)⟩
  · cases hz
    have p := p.rep (fun _ => by simp)
    cases p
    exact .inr ⟨_, rfl, k _ _ _ (.refl _) r (.bl _)⟩
  · cases hz
def fStrI : D → Option D
  | .int i => if bits i < 1920 then some (.str (toString i)) else none
  | _ => none
theorem k_strI : R1Ok K (fun xs H Q => ∃ i, xs = [.int i] ∧ i.natAbs.log2 < 1920 ∧ Q (.str (toString i)) H) fStrI := by
  intro pn w x d z Q r p hz k
  unfold fStrI at hz
  split at hz
  · split at hz
    · rename_i hb
      cases hz
      have p := p.rep (fun _ => by simp)
      cases p
      exact ⟨_, rfl, hb, k _ _ _ (.refl _) r (.str _)⟩
    · cases hz
  · cases hz
end
end DL

namespace DL
open PySem PySem.Spec L2

/-! ### + and * -/
section
variable {K : PySem.W.Frag}
def sAdd : D → D → Option D
  | .str a, .str b => if few (a.length + b.length) then some (.str (a ++ b)) else none
  | _, _ => none
theorem k_sadd : R2Ok K (fun x y H Q => ∃ i j, x = .str i ∧ y = .str j ∧ i.length + j.length ≤ sizeLine ∧ Q (.str (i ++ j)) H) sAdd := by
  intro pn w x y d e z Q r p1 p2 hz k
  unfold sAdd at hz
  split at hz
  · split at hz
    · rename_i hf
      cases hz; cases p1; cases p2
      exact ⟨_, _, rfl, rfl, hf.line, k _ _ _ (.refl _) r (.str _)⟩
    · cases hz
  · cases hz
def tAdd : D → D → Option D
  | .tup a, .tup b => if few (a.length + b.length) then some (.tup (a ++ b)) else none
  | _, _ => none
theorem k_tadd : R2Ok K (rCatA K) tAdd := by
  intro pn w x y d e z Q r p1 p2 hz k
  unfold tAdd at hz
  split at hz
  · split at hz
    · rename_i hf
      cases hz
      cases p1 with
      | tup h1 r1 =>
        cases p2 with
        | tup h2 r2 =>
          refine ⟨_, _, _, _, rfl, rfl, tqT r.ex h1, tqT r.ex h2, by rw [r1.length, r2.length]; exact hf.line, fun e => ?_, fun e1 e2 => ?_, fun _ _ p hp => ?_⟩
          · subst e; cases r1
            exact k _ _ _ (.refl _) r (.tup h2 r2)
          · subst e2; cases r2
            rw [List.append_nil] at k
            exact k _ _ _ (.refl _) r (.tup h1 r1)
          · have hn := r.noF hp
            exact k _ _ _ (gle_upd hn) (r.new hp) (.tup upd_same ((r1.append r2).mono (gle_upd hn)))
    · cases hz
  · cases hz
def lAddL : D → D → Option (List D)
  | .lst a, .lst b => if few (a.length + b.length) then some (a ++ b) else none
  | _, _ => none
theorem k_laddF : R2OkF K rCat lAddL := by
  intro pn w x y d e z Q r p1 p2 hz k
  unfold lAddL at hz
  split at hz
  · split at hz
    · rename_i hf
      cases hz
      cases p1 with
      | lst h1 r1 =>
        cases p2 with
        | lst h2 r2 =>
          exact ⟨_, _, _, _, rfl, rfl, r.ex _ _ h1, r.ex _ _ h2, by rw [r1.length, r2.length]; exact hf.line, fun p hp => k _ _ _ (.refl _) (r.alloc hp) (AF.new r hp (r1.append r2))⟩
    · cases hz
  · cases hz
theorem R2OkF.frozen {rr : R2} {f : D → D → Option (List D)} (h : R2OkF K rr f) : R2Ok K rr (fun d e => (f d e).map .lst) := by
  intro pn w x y d e z Q r p1 p2 hz k
  dsimp only at hz
  cases hf : f d e with
  | none => rw [hf] at hz; cases hz
  | some l =>
    rw [hf] at hz; cases hz
    refine h pn w x y d e l Q r p1 p2 hf fun G' v H' g r' a => ?_
    obtain ⟨G2, g2, r2, p⟩ := AF.rep r' a
    exact k G2 v H' (g.trans g2) r2 p
def lRepL : D → D → Option (List D)
  | .lst a, .int k => if -(2 ^ 63) ≤ k ∧ k < 2 ^ 63 ∧ few (a.length * k.toNat) then some (List.replicate k.toNat a).flatten else none
  | _, _ => none
theorem reps_rep {G : Gh} {vs : List V} {ds : List D} (r : Reps K G vs ds) : ∀ n, Reps K G (List.replicate n vs).flatten (List.replicate n ds).flatten
  | 0 => .nil
  | n + 1 => by
    rw [List.replicate_succ, List.replicate_succ, List.flatten_cons, List.flatten_cons]
    exact r.append (reps_rep r n)
theorem k_lrepF : R2OkF K rRep lRepL := by
  intro pn w x y d e z Q r p1 p2 hz k
  unfold lRepL at hz
  split at hz
  · split at hz
    · rename_i hf
      cases hz
      cases p2
      cases p1 with
      | lst h1 r1 =>
        exact ⟨_, _, _, rfl, rfl, r.ex _ _ h1, hf.1, hf.2.1, by rw [r1.length]; exact hf.2.2.line, fun p hp => k _ _ _ (.refl _) (r.alloc hp) (AF.new r hp (reps_rep r1 _))⟩
    · cases hz
  · cases hz
/-- + of ints, texts, tuples, lists -/
def fAdd : D → D → Option D
  | .int i, .int j => some (.int (i + j))
  | .str a, .str b => sAdd (.str a) (.str b)
  | .tup a, .tup b => tAdd (.tup a) (.tup b)
  | .lst a, .lst b => (lAddL (.lst a) (.lst b)).map .lst
  | _, _ => none
theorem R2Ok.to {rr : R2} {f g : D → D → Option D} (h : R2Ok K rr f) (e : ∀ d e z, g d e = some z → f d e = some z) : R2Ok K rr g := fun pn w x y d e' z Q r p1 p2 hz k => h pn w x y d e' z Q r p1 p2 (e _ _ _ hz) k
def rAddX (K : PySem.W.Frag) : R2 := fun x y H Q => (rI0 fun i j => .int (i + j)) x y H Q ∨ (∃ i j, x = .str i ∧ y = .str j ∧ i.length + j.length ≤ sizeLine ∧ Q (.str (i ++ j)) H) ∨ rCatA K x y H Q ∨ rCat x y H Q
theorem op_addX {X : Cx} : OpR X (binaryOp .Add) (rAddX X.K) := op_add.or (op_add_str.or (op_catA.or op_cat))
theorem k_addX : R2Ok K (rAddX K) fAdd := by
  intro pn w x y d e z Q r p1 p2 hz k
  unfold fAdd at hz
  split at hz
  · exact .inl (k_add pn w x y _ _ z Q r p1 p2 hz k)
  · exact .inr (.inl (k_sadd pn w x y _ _ z Q r p1 p2 hz k))
  · exact .inr (.inr (.inl (k_tadd pn w x y _ _ z Q r p1 p2 hz k)))
  · exact .inr (.inr (.inr (k_laddF.frozen pn w x y _ _ z Q r p1 p2 hz k)))
  · cases hz
def fMul : D → D → Option D
  | .int i, .int j => iMul (.int i) (.int j)
  | .lst a, .int k => (lRepL (.lst a) (.int k)).map .lst
  | _, _ => none
def rMulX : R2 := fun x y H Q => (rI CMulW fun i j => .int (i * j)) x y H Q ∨ rRep x y H Q
theorem op_mulX {X : Cx} : OpR X (binaryOp .Mult) rMulX := op_mulW.or op_rep
theorem k_mulX : R2Ok K rMulX fMul := by
  intro pn w x y d e z Q r p1 p2 hz k
  unfold fMul at hz
  split at hz
  · exact .inl (k_mul pn w x y _ _ z Q r p1 p2 hz k)
  · exact .inr (k_lrepF.frozen pn w x y _ _ z Q r p1 p2 hz k)
  · cases hz
/-! ### in -/
def flatD : D → Bool
  | .non => true | .bl _ => true | .int _ => true | .str _ => true
  | _ => false
def eqF : D → D → Bool
  | .non, .non => true
  | .bl a, .bl b => a == b
  | .bl a, .int b => (if a then 1 else 0) == b
  | .int a, .bl b => a == (if b then 1 else 0)
  | .int a, .int b => a == b
  | .str a, .str b => a == b
  | _, _ => false
def inD (d : D) (es : List D) : Bool := es.any fun e => eqF e d
theorem flat_v {G : Gh} {v : V} {d : D} (p : Rep K G v d) (h : flatD d = true) : flatV v = true := by
  cases p <;> first | rfl | cases h
theorem flat_vs {G : Gh} : ∀ {vs : List V} {ds : List D}, Reps K G vs ds → ds.all flatD = true → vs.all flatV = true
  | _, _, .nil, _ => rfl
  | _, _, .cons p r, h => by
    rw [List.all_cons, Bool.and_eq_true] at h
    rw [List.all_cons, flat_v p h.1, flat_vs r h.2]; rfl
theorem eqF_v {G : Gh} {v u : V} {d e : D} (p : Rep K G v d) (q : Rep K G u e) (h : flatD d = true) (h' : flatD e = true) : eqV v u = eqF d e := by
  cases p <;> first | (cases h; done) | (cases q <;> first | (cases h'; done) | rfl)
theorem inD_v {G : Gh} {v : V} {d : D} (p : Rep K G v d) (h : flatD d = true) : ∀ {vs : List V} {ds : List D}, Reps K G vs ds → ds.all flatD = true → inV v vs = inD d ds
  | _, _, .nil, _ => rfl
  | _, _, .cons q r, hs => by
    rw [List.all_cons, Bool.and_eq_true] at hs
    have ih := inD_v p h r hs.2
    unfold inV inD at ih ⊢
    rw [List.any_cons, List.any_cons, eqF_v q p hs.1 h, ih]
def fIn (neg : Bool) (d e : D) : Option D := match itD e with
  | some ds => if flatD d = true ∧ ds.all flatD = true then some (.bl (if neg then !inD d ds else inD d ds)) else none
  | none => none
theorem k_in (neg : Bool) : R2Ok K (rIn K neg) (fIn neg) := by
  intro pn w x y d e z Q r p1 p2 hz k
  unfold fIn at hz
  cases hi : itD e with
  | none => rw [hi] at hz; cases hz
  | some ds =>
    simp only [hi] at hz
    split at hz
    · rename_i hf
      cases hz
      obtain ⟨a, vs, rfl, hq, _, _, rs⟩ := AL.sq r (.inl p2) hi
      refine ⟨a, vs, rfl, hq, flat_v p1 hf.1, flat_vs rs hf.2, ?_⟩
      rw [inD_v p1 hf.1 rs hf.2]
      exact k _ _ _ (.refl _) r (.bl _)
    · cases hz
end
/-! ### slices -/
abbrev MO := S → R (Option Int)
def JO (X : Cx) (W : WX) (e : Option Expr) (m : MO) : Prop := PO X e (tG X.K X.pn W (fun _ (b a : Option Int) => b = a) m)
theorem PO.imp {X : Cx} {e : Option Expr} {t t' : TO} (h : PO X e t) (i : ∀ σ H Q, t' σ H Q → t σ H Q) : PO X e t' := ⟨fun pins s σ H Q I q => h.run pins s σ H Q I (i _ _ _ q)⟩
def mNoP : MO := ret none
def mPart (m : ME) : MO := bnd m fun d s => match d with
  | .int i => .ok (some i) s
  | _ => .stuck
def cutL {α : Type} (xs : List α) (lo hi : Option Int) : List α := (xs.drop (HT.sIx xs.length 0 lo)).take (HT.sIx xs.length xs.length hi - HT.sIx xs.length 0 lo)
def cutD (d : D) (lo hi : Option Int) : Option D := match d with
  | .tup ds => some (.tup (cutL ds lo hi))
  | .lst ds => some (.lst (cutL ds lo hi))
  | .kl ds => some (.lst (cutL ds lo hi))
  | .str z => if few z.length then some (.str (cutS z lo hi)) else none
  | _ => none
theorem reps_cut {K : PySem.W.Frag} {G : Gh} {vs : List V} {ds : List D} (r : Reps K G vs ds) (lo hi : Option Int) : Reps K G (cutV vs lo hi) (cutL ds lo hi) := by
  unfold cutV cutL
  rw [r.length]
  exact (r.drop _).take _
def rSlX (K : PySem.W.Frag) : V → Option Int → Option Int → Hp → VK → Prop := fun x lo hi H Q => rSlL K x lo hi H Q ∨ rSlA K x lo hi H Q ∨ rSlS x lo hi H Q
theorem sl_X {X : Cx} : SlR X (rSlX X.K) := sl_list.or (sl_tupA.or sl_str)
theorem cut_whole {α : Type} {xs : List α} {lo hi : Option Int} (h : HT.sIx xs.length 0 lo = 0 ∧ HT.sIx xs.length xs.length hi = xs.length) : cutL xs lo hi = xs := by
  unfold cutL
  rw [h.1, h.2, List.drop_zero, Nat.sub_zero, List.take_length]
theorem k_sl {K : PySem.W.Frag} {pn : List (Addr × Obj)} {w : Wd} {x : V} {d z : D} {lo hi : Option Int} {Q : VK} (r : Rel K pn w) (p : AL K w x d) (hz : cutD d lo hi = some z)
    (k : ∀ G' v H', w.G.le G' → Rel K pn { w with G := G', H := H' } → Rep K G' v z → Q v H') : rSlX K x lo hi w.H Q := by
  have lcase : ∀ {ds : List D}, itD d = some ds → isTup d = false → z = .lst (cutL ds lo hi) → rSlX K x lo hi w.H Q := fun {ds} hi' ht ez => by
    subst ez
    obtain ⟨a, vs, rfl, _, hq, _, rs⟩ := AL.sq r p hi'
    refine .inl ⟨a, vs, rfl, hq ht, fun q hn => ?_⟩
    obtain ⟨G2, g2, r2, p2⟩ := AF.rep (r.alloc hn) (AF.new r hn (reps_cut rs lo hi))
    exact k G2 _ _ g2 r2 p2
  unfold cutD at hz
  split at hz
  · cases hz
    rcases p with p | ⟨a, vs, es, rfl, he, _⟩
    · cases p with
      | tup hs rs =>
        refine .inr (.inl ⟨_, _, rfl, tqT r.ex hs, fun hw => ?_, fun _ q hn => ?_⟩)
        · rw [rs.length] at hw
          rw [cut_whole hw] at k
          exact k _ _ _ (.refl _) r (.tup hs rs)
        · have hf := r.noF hn
          exact k _ _ _ (gle_upd hf) (r.new hn) (.tup upd_same ((reps_cut rs lo hi).mono (gle_upd hf)))
    · cases he
  · cases hz; exact lcase rfl rfl rfl
  · cases hz; exact lcase rfl rfl rfl
  · split at hz
    · rename_i hf
      cases hz
      have p := p.rep (fun _ => by simp)
      cases p
      exact .inr (.inr ⟨_, rfl, hf.line, k _ _ _ (.refl _) r (.str _)⟩)
    · cases hz
  · cases hz
def mSl (m : ME) (lo hi : MO) : ME := bnd m fun d => bnd lo fun l => bnd hi fun h => lift (cutD d l h)
/-- of a slot -/
def mSlN (i : Nat) (lo hi : MO) : ME := fun s => match cur s i with
  | some _ => bnd lo (fun l => bnd hi fun h s => match cur s i with
    | some d => lift (cutD d l h) s
    | none => .stuck) s
  | none => .stuck
section
variable {X : Cx} {W : WX} {e : Expr} {m : ME} {lo hi : Option Expr} {ml mh : MO} {pos p2 : Pos}
theorem jo_none : JO X W none mNoP := by
  refine PO.imp po_none fun σ H Q h => ?_
  obtain ⟨w, rfl, rfl, r, h⟩ := h
  exact fin r h rfl
theorem jo_some (h : JE X W e m) : JO X W (some e) (mPart m) := by
  refine PO.imp (po_some h) fun σ H Q h => ?_
  obtain ⟨w, rfl, rfl, r, h⟩ := h
  refine run r h fun d s' G' v H' g r' p h' => ?_
  split at h'
  · cases p
    exact ⟨_, rfl, fin r' h' rfl⟩
  · exact h'.elim
theorem je_sl (h : JE X W e m) (hl : JO X W lo ml) (hh : JO X W hi mh) : JE X W (.Subscript e (.Slice lo hi none p2) pos) (mSl m ml mh) := by
  refine PE.imp (pe_slice sl_X h hl hh) fun σ H Q h => ?_
  obtain ⟨w, rfl, rfl, r, h⟩ := h
  refine run r h fun d s' G' v H' g r' p h' => ?_
  refine run r' h' fun l s2 G2 l2 H2 g2 r2 e2 h2 => ?_
  cases e2
  refine run r2 h2 fun u s3 G3 u3 H3 g3 r3 e3 h3 => ?_
  cases e3
  cases hz : cutD d l u with
  | none => rw [hz] at h3; exact h3.elim
  | some z =>
    rw [hz] at h3
    exact k_sl r3 (.inl (p.mono (g2.trans g3))) hz fun G4 v4 H4 g4 r4 p4 => h3 G4 v4 H4 g4 r4 p4
theorem je_slN (i : Nat) {x : Str} {p : Pos} (hl : JO X W lo ml) (hh : JO X W hi mh) (hN : X.N[i]? = some x := by rfl) (hv : Vis X.env.scope x := by first | exact Or.inl rfl | exact Or.inr (Or.inl rfl) | exact Or.inr (Or.inr rfl)) (hd : (x == ("__debug__" : Str)) = false := by decide) (hcd : (x == ("__classdict__" : Str)) = false := by decide) :
    JE X W (.Subscript (.Name x p) (.Slice lo hi none p2) pos) (mSlN i ml mh) := by
  refine PE.imp (pe_slice sl_X (pv i hN hv hd hcd) hl hh) fun σ H Q h => ?_
  obtain ⟨w, rfl, rfl, r, h⟩ := h
  unfold mSlN at h
  cases hc : cur w.s i with
  | none => simp only [hc] at h; exact h.elim
  | some d0 =>
    simp only [hc] at h
    obtain ⟨v, h1, _⟩ := slot_val r hc
    refine ⟨v, h1, ?_⟩
    refine run r h fun l s2 G2 l2 H2 g2 r2 e2 h2 => ?_
    cases e2
    refine run r2 h2 fun u s3 G3 u3 H3 g3 r3 e3 h3 => ?_
    cases e3
    cases hc2 : cur s3 i with
    | none => simp only [hc2] at h3; exact h3.elim
    | some d =>
      simp only [hc2] at h3
      obtain ⟨v2, h4, h5⟩ := slot_val r3 hc2
      have h4 : w.σ[i]? = some (some v2) := h4
      rw [h1] at h4
      cases h4
      cases hz : cutD d l u with
      | none => rw [hz] at h3; exact h3.elim
      | some z =>
        rw [hz] at h3
        exact k_sl r3 h5 hz fun G4 v4 H4 g4 r4 p4 => h3 G4 v4 H4 g4 r4 p4
end
end DL

namespace DL
open PySem PySem.Spec L2

/-! ### a list of one's own: append, pop, xs[i] = e -/
/-- xs.append(e), xs in slot i -/
def mApp (i : Nat) (m : ME) : ME := fun s => match s.sl[i]? with
  | some (.own _) => bnd m (fun d s => match s.sl[i]? with
    | some (.own ds) => if few (ds.length + 1) then .ok .non (s.put i (.own (ds ++ [d]))) else .stuck
    | _ => .stuck) s
  | _ => .stuck
def mPop (i : Nat) : ME := fun s => match s.sl[i]? with
  | some (.own ds) => match ds[ds.length - 1]? with
    | some d => .ok d (s.put i (.own ds.dropLast))
    | none => .stuck
  | _ => .stuck
def mPopAt (i : Nat) (m : ME) : ME := fun s => match s.sl[i]? with
  | some (.own _) => bnd m (fun d s => match s.sl[i]?, d with
    | some (.own ds), .int j => if -(2 ^ 63) ≤ j ∧ j < 2 ^ 63 then (match seqIndex? j ds.length with
      | some k => (match ds[k]? with
        | some z => .ok z (s.put i (.own (ds.eraseIdx k)))
        | none => .stuck)
      | none => .stuck) else .stuck
    | _, _ => .stuck) s
  | _ => .stuck
/-- xs[k] = e -/
def mSetIx (i : Nat) (mk mv : ME) : MS := bnd mv fun v => bnd (fun s => match s.sl[i]? with | some (.own _) => mk s | _ => .stuck) fun k s => match s.sl[i]?, k with
  | some (.own ds), .int j => (match ixN ds.length j with
    | some n => .ok .nx (s.put i (.own (ds.set n v)))
    | none => .stuck)
  | _, _ => .stuck
theorem Reps.dropLast {K : PySem.W.Frag} {G : Gh} {vs : List V} {ds : List D} (r : Reps K G vs ds) : Reps K G vs.dropLast ds.dropLast := by
  rw [List.dropLast_eq_take, List.dropLast_eq_take, r.length]
  exact r.take _
theorem Reps.erase {K : PySem.W.Frag} {G : Gh} {vs : List V} {ds : List D} (r : Reps K G vs ds) (k : Nat) : Reps K G (vs.eraseIdx k) (ds.eraseIdx k) := by
  rw [List.eraseIdx_eq_take_drop_succ, List.eraseIdx_eq_take_drop_succ]
  exact (r.take k).append (r.drop (k + 1))
section
variable {X : Cx} {W : WX} {e : Expr} {m : ME} {i : Nat} {x : Str} {p apos cpos pos : Pos}
theorem je_app (h : JE X W e m) (hN : X.N[i]? = some x := by rfl) (hv : Vis X.env.scope x := by first | exact Or.inl rfl | exact Or.inr (Or.inl rfl) | exact Or.inr (Or.inr rfl)) (hd : (x == ("__debug__" : Str)) = false := by decide) (hcd : (x == ("__classdict__" : Str)) = false := by decide)
    (hbase : attributeBase (.Name x p) "append" X.env (eval (.Name x p) X.env) = eval (.Name x p) X.env := by rfl)
    (hfew : ((backTo cpos (starEach [e] X.env)).all (fun x => !x.1) && (backToKw cpos (keywordEach [] X.env)).all (fun x => x.1.isSome) && decide ([e].length + ([] : List Keyword).length + (if ([] : List Keyword).isEmpty then 0 else 1) < 30)) = true := by rfl)
    (hline : (apos.endLine == cpos.line) = true := by rfl) (hs : starEach [e] X.env = (false, eval e X.env) :: starEach [] X.env := by rfl) (hplain : (backTo cpos (starEach [] X.env)).any (·.1) = false := by rfl) :
    JE X W (.Call (.Attribute (.Name x p) "append" apos) [e] [] cpos) (mApp i m) := by
  refine PE.imp (pe_bm PySem.F.plainAttrs_list PySem.F.slot_list_append PySem.F.type_list_append mt_append (pv i hN hv hd hcd) (pa_cons h pa_nil hs) hbase hfew hline hs hplain) fun σ H Q h => ?_
  obtain ⟨w, rfl, rfl, r, h⟩ := h
  unfold mApp at h
  split at h
  · rename_i ds0 hs0
    obtain ⟨a, vs, z1, z2, z3, _⟩ := r.sl.own i _ hs0
    refine ⟨_, z1, .inl ⟨rfl, vs, SqL.of z2⟩, ?_⟩
    refine run r h fun d s' G' v H' g r' p h' => ?_
    split at h'
    · rename_i ds hs1
      split at h'
      · rename_i hf
        obtain ⟨b, us, y1, y2, y3, _⟩ := r'.sl.own i _ hs1
        have y1 : w.σ[i]? = some (some (.ref b)) := y1
        rw [z1] at y1; cases y1
        refine ⟨_, us, v, rfl, rfl, y2, ?_, ?_⟩
        · rw [y3.length]; exact hf.line
        · exact h' _ _ _ (.refl _) (r'.mut hs1 z1 (y3.append (.cons p .nil))) .non
      · exact h'.elim
    · exact h'.elim
  · exact h.elim
theorem je_pop (hN : X.N[i]? = some x := by rfl) (hv : Vis X.env.scope x := by first | exact Or.inl rfl | exact Or.inr (Or.inl rfl) | exact Or.inr (Or.inr rfl)) (hd : (x == ("__debug__" : Str)) = false := by decide) (hcd : (x == ("__classdict__" : Str)) = false := by decide)
    (hbase : attributeBase (.Name x p) "pop" X.env (eval (.Name x p) X.env) = eval (.Name x p) X.env := by rfl) (hline : (apos.endLine == cpos.line) = true := by rfl) :
    JE X W (.Call (.Attribute (.Name x p) "pop" apos) [] [] cpos) (mPop i) := by
  refine PE.imp (pe_bm0 PySem.F.plainAttrs_list PySem.F.slot_list_pop PySem.F.type_list_pop mt_pop (pv i hN hv hd hcd) hbase hline) fun σ H Q h => ?_
  obtain ⟨w, rfl, rfl, r, h⟩ := h
  unfold mPop at h
  split at h
  · rename_i ds hs0
    obtain ⟨a, vs, z1, z2, z3, _⟩ := r.sl.own i _ hs0
    split at h
    · rename_i d hd
      obtain ⟨v, v1, v2⟩ := z3.get hd
      refine ⟨_, z1, .inl ⟨rfl, vs, SqL.of z2⟩, a, vs, v, rfl, rfl, z2, by rw [z3.length]; exact v1, ?_⟩
      exact h _ _ _ (.refl _) (r.mut hs0 z1 z3.dropLast) v2
    · exact h.elim
  · exact h.elim
theorem je_popAt (h : JE X W e m) (hN : X.N[i]? = some x := by rfl) (hv : Vis X.env.scope x := by first | exact Or.inl rfl | exact Or.inr (Or.inl rfl) | exact Or.inr (Or.inr rfl)) (hd : (x == ("__debug__" : Str)) = false := by decide) (hcd : (x == ("__classdict__" : Str)) = false := by decide)
    (hbase : attributeBase (.Name x p) "pop" X.env (eval (.Name x p) X.env) = eval (.Name x p) X.env := by rfl)
    (hfew : ((backTo cpos (starEach [e] X.env)).all (fun x => !x.1) && (backToKw cpos (keywordEach [] X.env)).all (fun x => x.1.isSome) && decide ([e].length + ([] : List Keyword).length + (if ([] : List Keyword).isEmpty then 0 else 1) < 30)) = true := by rfl)
    (hline : (apos.endLine == cpos.line) = true := by rfl) (hs : starEach [e] X.env = (false, eval e X.env) :: starEach [] X.env := by rfl) (hplain : (backTo cpos (starEach [] X.env)).any (·.1) = false := by rfl) :
    JE X W (.Call (.Attribute (.Name x p) "pop" apos) [e] [] cpos) (mPopAt i m) := by
  refine PE.imp (pe_bm PySem.F.plainAttrs_list PySem.F.slot_list_pop PySem.F.type_list_pop mt_popAt (pv i hN hv hd hcd) (pa_cons h pa_nil hs) hbase hfew hline hs hplain) fun σ H Q h => ?_
  obtain ⟨w, rfl, rfl, r, h⟩ := h
  unfold mPopAt at h
  split at h
  · rename_i ds0 hs0
    obtain ⟨a, vs, z1, z2, z3, _⟩ := r.sl.own i _ hs0
    refine ⟨_, z1, .inl ⟨rfl, vs, SqL.of z2⟩, ?_⟩
    refine run r h fun d s' G' v H' g r' p h' => ?_
    split at h'
    · rename_i ds j hs1
      split at h'
      · rename_i hj
        split at h'
        · rename_i k hk
          split at h'
          · rename_i z hz
            obtain ⟨b, us, y1, y2, y3, _⟩ := r'.sl.own i _ hs1
            have y1 : w.σ[i]? = some (some (.ref b)) := y1
            rw [z1] at y1; cases y1
            obtain ⟨u, u1, u2⟩ := y3.get hz
            cases p
            refine ⟨_, us, j, k, u, rfl, rfl, y2, hj.1, hj.2, by rw [y3.length]; exact hk, u1, ?_⟩
            exact h' _ _ _ (.refl _) (r'.mut hs1 z1 (y3.erase k)) u2
          · exact h'.elim
        · exact h'.elim
      · exact h'.elim
    · exact h'.elim
  · exact h.elim
theorem js_setIx {k : Expr} {mk : ME} {spos : Pos} (hv : JE X W e m) (hk : JE X W k mk) (hN : X.N[i]? = some x := by rfl) (hvis : Vis X.env.scope x := by first | exact Or.inl rfl | exact Or.inr (Or.inl rfl) | exact Or.inr (Or.inr rfl)) (hd : (x == ("__debug__" : Str)) = false := by decide) (hcd : (x == ("__classdict__" : Str)) = false := by decide)
    (ha : ∀ v, assign (.Subscript (.Name x p) k pos) X.env v = (do
      let ov ← holding [v] (eval (.Name x p) X.env)
      let iv ← holding [v, ov] (eval k X.env)
      standAt pos
      holding [v, ov, iv] (setItem ov iv v)
      release [v, ov, iv] []) := by intro _; rfl) (hs : swapsWithSole [.Subscript (.Name x p) k pos] e spos.line X.env = pure false := by rfl) (hw : swappedStores [.Subscript (.Name x p) k pos] e X.env = pure none := by rfl)
    (h1 : (assignEach [.Subscript (.Name x p) k pos] X.env).map (·.2) = [assign (.Subscript (.Name x p) k pos) X.env] := by rfl) : JS X W (.Assign [.Subscript (.Name x p) k pos] e spos) (mSetIx i mk m) := by
  refine PS.imp (ps_asg hv (pg_sub (pv i hN hvis hd hcd) hk set_list ha) hs hw h1) fun D σ H h => ?_
  obtain ⟨w, rfl, rfl, r, h⟩ := h
  refine runS r h fun d s' G' v H' g r' p h' => ?_
  cases hx : s'.sl[i]? with
  | none => simp only [bnd, hx] at h'; exact h'.elim
  | some sl =>
    cases sl with
    | own ds0 =>
      obtain ⟨a, vs, z1, z2, z3, _⟩ := r'.sl.own i _ hx
      refine ⟨_, z1, ?_⟩
      have h2 : okS X.K X.pn W { w with G := G', H := H', s := s' } D (bnd mk (fun k s => match s.sl[i]?, k with | some (.own ds), .int j => (match ixN ds.length j with | some n => .ok .nx (s.put i (.own (ds.set n d))) | none => .stuck) | _, _ => .stuck) s') := by
        unfold bnd at h'
        simp only [hx] at h'
        exact h'
      refine runS r' h2 fun k2 s2 G2 v2 H2 g2 r2 p2 h3 => ?_
      dsimp only at h3
      split at h3
      · rename_i ds j hs1
        split at h3
        · rename_i n hn
          obtain ⟨b, us, y1, y2, y3, _⟩ := r2.sl.own i _ hs1
          have y1 : w.σ[i]? = some (some (.ref b)) := y1
          have z1 : w.σ[i]? = some (some (.ref a)) := z1
          rw [z1] at y1; cases y1
          cases p2
          refine ⟨_, us, j, n, rfl, rfl, y2, by rw [y3.length]; exact hn, ?_⟩
          exact h3 _ _ _ (.refl _) (r2.mut hs1 z1 (Reps.set (p.mono g2) n y3))
        · exact h3.elim
      · exact h3.elim
    | _ => simp only [bnd, hx] at h'; exact h'.elim
end

/-! ### comprehensions -/
/-- no caught error stands in a slot -/
def noX (s : S) : Bool := s.sl.all fun x => match x with | .xn _ => false | _ => true
theorem SlRel.pn {K : PySem.W.Frag} {pn pn' : List (Addr × Obj)} {H0 : Hp} {G : Gh} {σ : L2.St} {H : Hp} {s : S} (h : SlRel K pn H0 G σ H s.sl) (n : noX s = true) : SlRel K pn' H0 G σ H s.sl :=
  ⟨h.len, h.imm, h.own, h.dis, fun i x e => by
    have := List.all_eq_true.mp n _ (List.mem_of_getElem? e)
    cases this⟩
theorem Rel.pn {K : PySem.W.Frag} {pn pn' : List (Addr × Obj)} {w : Wd} (r : Rel K pn w) (n : noX w.s = true) : Rel K pn' w := ⟨r.ex, r.le, r.st, r.sl.pn n, r.pr⟩
def wipeS (s : S) : List Nat → S
  | [] => s
  | v :: vs => (wipeS s vs).put v .emp
theorem wipeS_st (s : S) : ∀ vs, (wipeS s vs).st = s.st
  | [] => rfl
  | v :: vs => wipeS_st s vs
theorem Rel.wipe {K : PySem.W.Frag} {pn : List (Addr × Obj)} {w : Wd} (r : Rel K pn w) : ∀ vs : List Nat, Rel K pn { w with σ := L2.wipe w.σ vs, s := wipeS w.s vs }
  | [] => r
  | v :: vs => Rel.clr (i := v) (v := none) (Rel.wipe r vs)
/-- the turns: what is made so far, the items left -/
def lcs (g : MG) (t : MT) (m : ME) (vs : List Nat) : List D → List D → MA
  | acc, [] => fun s => .ok acc s
  | acc, d :: ds => fun s => match g d with
    | none => .stuck
    | some l => match t (s.puts l) with
      | .ok b s1 => if b then (match m s1 with
          | .ok z s2 => if few (acc.length + 1) ∧ noX s2 = true then lcs g t m vs (acc ++ [z]) ds (wipeS s2 vs) else .stuck
          | _ => .stuck) else if noX s1 = true then lcs g t m vs acc ds (wipeS s1 vs) else .stuck
      | _ => .stuck
/-- [m for g in it if t]; vs: the own names' slots -/
def mLc (it : MA) (g : MG) (t : MT) (m : ME) (vs : List Nat) : MA := bnd it fun ds s => if noX s = true then lcs g t m vs [] ds (wipeS s vs) else .stuck
abbrev WF : WX := fun _ _ _ _ => False
def mYes : MT := ret true
def JTs (X : Cx) (W : WX) (ifs : List Expr) (t : MT) : Prop := PTs X ifs (tG X.K X.pn W AB t)
theorem PTs.imp {X : Cx} {e : List Expr} {t t' : TT} (h : PTs X e t) (i : ∀ σ H Q, t' σ H Q → t σ H Q) : PTs X e t' := ⟨fun pins s σ H Q I q => h.run pins s σ H Q I (i _ _ _ q)⟩
section
variable {X : Cx} {W : WX}
theorem jts_nil : JTs X W [] mYes := by
  refine PTs.imp pts_nil fun σ H Q h => ?_
  obtain ⟨w, rfl, rfl, r, h⟩ := h
  exact fin r h rfl
theorem jts_one {c : Expr} {t : MT} (h : JT X W c t) : JTs X W [c] t := pts_one h
theorem Rel.prPush {K : PySem.W.Frag} {pn : List (Addr × Obj)} {w : Wd} (r : Rel K pn w) {p : Addr} {o : HO} (hp : w.H p = none) (ho : isT o = false := by rfl) : Rel K pn { w with H := upd w.H p o, pr := (p, o) :: w.pr } := by
  have r1 := r.alloc (o := o) hp
  refine ⟨r1.ex, r1.le, r1.st, r1.sl, fun q hq => ?_⟩
  rcases List.mem_cons.mp hq with e | e
  · subst e
    exact ⟨upd_same, r.noF hp, ⟨r.noA hp, ho⟩, r.no0 hp, r.noS hp⟩
  · exact r1.pr q e
theorem Rel.prPut {K : PySem.W.Frag} {pn : List (Addr × Obj)} {w : Wd} {p : Addr} {o o' : HO} {l : List (Addr × HO)} (r : Rel K pn w) (e : w.pr = (p, o) :: l) (hl : ∀ q ∈ l, q.1 ≠ p) (ho : isT o' = false := by rfl) : Rel K pn { w with H := upd w.H p o', pr := (p, o') :: l } := by
  have m : (p, o) ∈ w.pr := by rw [e]; exact List.mem_cons_self
  obtain ⟨p1, p2, p3, p4, p5⟩ := r.pr (p, o) m
  dsimp only at p1 p2 p3 p4 p5
  refine ⟨fun a u h => ?_, ⟨r.le.g, r.le.nw, r.le.fz, fun a u h n => ?_, fun a u h => ?_⟩, ⟨r.st.len, fun n a u h1 h2 => (r.st.at_ n a u h1 h2).mono (.refl _) fun x h => ?_, r.st.nof, r.st.nd⟩, ⟨r.sl.len, r.sl.imm, fun i ds h => ?_, r.sl.dis, r.sl.xn⟩, fun q hq => ?_⟩
  · have h : w.G.F a = some u := h
    exact (upd_ne (show a ≠ p from fun z => by rw [z, p2] at h; cases h)).trans (r.ex a u h)
  · have h : w.H0 a = some u := h
    exact (upd_ne (show a ≠ p from fun z => by rw [z, p4] at h; cases h)).trans (r.le.kp a u h n)
  · obtain ⟨u', h'⟩ := r.le.dm a u h
    by_cases z : a = p
    · exact ⟨o', by subst z; exact upd_same⟩
    · exact ⟨u', (upd_ne z).trans h'⟩
  · have ma : a ∈ w.G.ad := List.mem_of_getElem? h1
    exact (upd_ne (show a ≠ p from fun z => p3.1 (z ▸ ma))).trans h
  · obtain ⟨a, vs, h1, h2, h3⟩ := r.sl.own i ds h
    exact ⟨a, vs, h1, (upd_ne (show a ≠ p from fun z => p5 i ds h (z ▸ h1))).trans h2, h3⟩
  · rcases List.mem_cons.mp hq with z | z
    · subst z
      exact ⟨upd_same, p2, ⟨p3.1, ho⟩, p4, p5⟩
    · obtain ⟨q1, q2⟩ := r.pr q (by rw [e]; exact List.mem_cons_of_mem _ z)
      exact ⟨(upd_ne (hl q z)).trans q1, q2⟩
theorem Rel.prPop {K : PySem.W.Frag} {pn : List (Addr × Obj)} {w : Wd} {p : Addr} {vs : List V} {ds : List D} {l : List (Addr × HO)} (r : Rel K pn w) (e : w.pr = (p, .lst vs) :: l) (hl : ∀ q ∈ l, q.1 ≠ p) (h : Reps K w.G vs ds) : Rel K pn { w with pr := l } ∧ AF K { w with pr := l } (.ref p) ds := by
  have m : (p, HO.lst vs) ∈ w.pr := by rw [e]; exact List.mem_cons_self
  obtain ⟨p1, p2, p3, p4, p5⟩ := r.pr _ m
  exact ⟨⟨r.ex, r.le, r.st, r.sl, fun q hq => r.pr q (by rw [e]; exact List.mem_cons_of_mem _ hq)⟩, p, vs, rfl, p1, h, p2, p3.1, p4, p5, hl⟩
theorem wipeS_emp {s : S} : ∀ {vs : List Nat} {v : Nat} {x : Slot}, v ∈ vs → (wipeS s vs).sl[v]? = some x → x = .emp
  | [], _, _, h, _ => by cases h
  | u :: vs, v, x, h, e => by
    have e : ((wipeS s vs).sl.set u .emp)[v]? = some x := e
    rcases set_get e with ⟨e1, e2⟩ | ⟨e1, e2⟩
    · exact e2
    · rcases List.mem_cons.mp h with z | z
      · exact (e1 z).elim
      · exact wipeS_emp z e2
theorem wipeS_len (s : S) : ∀ vs, (wipeS s vs).sl.length = s.sl.length
  | [] => rfl
  | v :: vs => by
    show ((wipeS s vs).sl.set v .emp).length = _
    rw [List.length_set, wipeS_len s vs]
/-- back from the block: the own names' slots are empty, the others are as they were -/
theorem Rel.unwipe {K : PySem.W.Frag} {pn : List (Addr × Obj)} {w : Wd} {σ : L2.St} {s : S} {vs : List Nat} (r : Rel K pn { w with σ := L2.wipe σ vs, s := wipeS s vs }) : Rel K pn { w with σ := σ, s := wipeS s vs } := by
  have ag : ∀ (i : Nat) (x : Slot), (wipeS s vs).sl[i]? = some x → x ≠ Slot.emp → (L2.wipe σ vs)[i]? = σ[i]? := fun i x h hx => wipe_out fun hi => hx (wipeS_emp hi h)
  refine ⟨r.ex, r.le, r.st, ⟨?_, fun i d h => ?_, fun i ds h => ?_, fun i j ds es a h1 h2 h3 h4 => ?_, fun i x h => ?_⟩, fun q hq => ?_⟩
  · have := r.sl.len
    dsimp only at this ⊢
    rw [wipe_length] at this
    exact this
  · obtain ⟨v, h1, h2⟩ := r.sl.imm i d h
    exact ⟨v, (ag i _ h (by simp)).symm.trans h1, h2⟩
  · obtain ⟨a, us, h1, h2⟩ := r.sl.own i ds h
    exact ⟨a, us, (ag i _ h (by simp)).symm.trans h1, h2⟩
  · exact r.sl.dis i j ds es a h1 h2 ((ag i _ h1 (by simp)).trans h3) ((ag j _ h2 (by simp)).trans h4)
  · obtain ⟨a, oe, tl, cls, d, h1, h2, h3⟩ := r.sl.xn i x h
    exact ⟨a, oe, tl, cls, d, h1, (ag i _ h (by simp)).symm.trans h2, h3⟩
  · obtain ⟨p1, p2, p3, p4, p5⟩ := r.pr q hq
    exact ⟨p1, p2, p3, p4, fun i es h1 h2 => p5 i es h1 ((ag i _ h1 (by simp)).trans h2)⟩
theorem wipe_wipe {σ : L2.St} {vs : List Nat} : L2.wipe (L2.wipe σ vs) vs = L2.wipe σ vs := by
  apply List.ext_getElem?
  intro i
  by_cases hi : i ∈ vs
  · have key : ∀ (vs : List Nat) (σ : L2.St), i ∈ vs → i < σ.length → (L2.wipe σ vs)[i]? = some none := by
      intro vs
      induction vs with
      | nil => intro σ h; cases h
      | cons v vs ih =>
        intro σ h hl
        unfold L2.wipe
        by_cases e : v = i
        · subst e
          rw [List.getElem?_set_self (by rw [wipe_length]; exact hl)]
        · rw [List.getElem?_set_ne e]
          rcases List.mem_cons.mp h with z | z
          · exact (e z.symm).elim
          · exact ih σ z hl
    by_cases hl : i < σ.length
    · rw [key vs _ hi (by rw [wipe_length]; exact hl), key vs σ hi hl]
    · rw [List.getElem?_eq_none (by rw [wipe_length, wipe_length]; omega), List.getElem?_eq_none (by rw [wipe_length]; omega)]
  · rw [wipe_out hi]
section
variable {elt tg iter : Expr} {ifs : List Expr} {scope : Scope} {own : List (Str × Nat)} {pos : Pos} {it : MA} {g : MG} {ix : List Nat} {t : MT} {m : ME}
theorem lc_run {σ : L2.St} {H : Hp} {Q : VK} {vs : List Nat} (hix : ∀ i ∈ ix, i ∈ vs) (hgx : ∀ d l, g d = some l → ∀ p ∈ l, p.1 ∈ ix) (h : tG X.K X.pn W (AF X.K) (mLc it g t m vs) σ H Q) :
    tLc (tG X.K X.pn W (AI X.K) it) (tTg X.K g) (tG X.K [] WF AB t) (tG X.K [] WF (AR X.K) m) vs σ H Q := by
  obtain ⟨w, rfl, rfl, r, h⟩ := h
  refine run r h fun ds s' G' J H' g' r' I h' => ?_
  intro L hL
  split at h'
  · rename_i hx
    -- the block begins
    have r0 : Rel X.K [] { w with G := G', σ := L2.wipe w.σ vs, H := upd H' L (.lst []), s := wipeS s' vs, pr := (L, .lst []) :: w.pr } := Rel.prPush (w := { w with G := G', σ := L2.wipe w.σ vs, H := H', s := wipeS s' vs }) (Rel.wipe (Rel.pn r' hx) vs) hL
    have hl : ∀ q ∈ w.pr, q.1 ≠ L := fun q hq => Rel.noP r' hL q hq
    refine ⟨fun i mm H => mm = ds.length - i ∧ i ≤ ds.length ∧ ∃ (G2 : Gh) (s2 : S) (acc : List D) (us : List V), G'.le G2 ∧ Rel X.K [] { w with G := G2, σ := L2.wipe w.σ vs, H := H, s := wipeS s2 vs, pr := (L, .lst us) :: w.pr } ∧ Reps X.K G2 us acc ∧
      noX (wipeS s2 vs) = true ∧ okG X.K X.pn W (AF X.K) { w with G := G2, H := H, s := wipeS s2 vs } Q (lcs g t m vs acc (ds.drop i) (wipeS s2 vs)), ⟨_, rfl, Nat.zero_le _, G', s', [], [], .refl _, r0, .nil, ?_, okG.up (w := { w with G := G', H := H', s := s' }) h' (.refl _)⟩, ?_⟩
    · -- no error stands there
      refine List.all_eq_true.mpr fun x hxm => ?_
      obtain ⟨i, hi⟩ := List.mem_iff_getElem?.mp hxm
      by_cases hv : i ∈ vs
      · rw [wipeS_emp hv hi]
      · have key : ∀ (vs : List Nat), i ∉ vs → (wipeS s' vs).sl[i]? = s'.sl[i]? := by
          intro vs
          induction vs with
          | nil => intro _; rfl
          | cons v vs ih =>
            intro hn
            simp only [List.mem_cons, not_or] at hn
            show ((wipeS s' vs).sl.set v .emp)[i]? = _
            rw [List.getElem?_set_ne (Ne.symm hn.1), ih hn.2]
        rw [key vs hv] at hi
        exact List.all_eq_true.mp hx _ (List.mem_of_getElem? hi)
    · rintro i mm H2 ⟨rfl, hi, G2, s2, acc, us, g2, r2, rs, hx2, h2⟩
      by_cases hlt : i < ds.length
      · have hd : ds[i]? = some ds[i] := List.getElem?_eq_getElem hlt
        have ed : ds.drop i = ds[i] :: ds.drop (i + 1) := List.drop_eq_getElem_cons hlt
        rw [ed] at h2
        refine .inr ⟨I.go _ _ r2 g2 i hlt, fun H => ∃ (G2 : Gh) (s2 : S) (acc : List D) (us : List V), G'.le G2 ∧ Rel X.K [] { w with G := G2, σ := L2.wipe w.σ vs, H := H, s := wipeS s2 vs, pr := (L, .lst us) :: w.pr } ∧ Reps X.K G2 us acc ∧
            noX (wipeS s2 vs) = true ∧ okG X.K X.pn W (AF X.K) { w with G := G2, H := H, s := wipeS s2 vs } Q (lcs g t m vs acc (ds.drop (i + 1)) (wipeS s2 vs)), fun H' hw => ⟨_, by omega, rfl, hlt, hw⟩, fun x H3 y => ?_⟩
        obtain ⟨G3, g3, r3, p3⟩ := I.yld _ _ r2 g2 i _ x H3 hd y
        have h2' := h2
        unfold lcs at h2'
        cases hl2 : g ds[i] with
        | none => simp only [hl2] at h2'; exact h2'.elim
        | some l =>
          simp only [hl2] at h2'
          refine ⟨[], _, ds[i], l, rfl, r3, p3, hl2, fun lv hv => ?_⟩
          have hlv : ∀ p ∈ lv, p.1 ∈ vs := by
            intro p hp
            have : ∀ {lv : List (Nat × V)} {l : List (Nat × D)}, RepU X.K G3 lv l → ∀ p ∈ lv, ∃ q ∈ l, q.1 = p.1 := by
              intro lv l h
              induction h with
              | nil => intro p hp; cases hp
              | cons a _ ih =>
                intro p hp
                rcases List.mem_cons.mp hp with z | z
                · subst z; exact ⟨_, List.mem_cons_self, a.1.symm⟩
                · obtain ⟨q, q1, q2⟩ := ih p z
                  exact ⟨q, List.mem_cons_of_mem _ q1, q2⟩
            obtain ⟨q, q1, q2⟩ := this hv p hp
            rw [← q2]
            exact hix _ (hgx _ _ hl2 q q1)
          refine ⟨by rw [wipe_upds hlv, wipe_wipe], ?_⟩
          have r4 := Rel.sets r3 hv
          -- the test
          cases ht : t ((wipeS s2 vs).puts l) with
          | exc y s5 => simp only [ht] at h2'; exact h2'.elim
          | stuck => simp only [ht] at h2'; exact h2'.elim
          | ok b s5 =>
            simp only [ht] at h2'
            refine ⟨_, rfl, rfl, r4, ?_⟩
            show okG X.K [] WF AB _ _ (t ((wipeS s2 vs).puts l))
            rw [ht]
            intro G5 b5 H5 g5 r5 e5
            subst e5
            have wσ : L2.wipe (upds (L2.wipe w.σ vs) lv) vs = L2.wipe w.σ vs := by rw [wipe_upds hlv, wipe_wipe]
            cases b5 with
            | false =>
              simp only [Bool.false_eq_true, if_false] at h2' ⊢
              split at h2'
              · rename_i hx5
                have r6 := Rel.wipe (w := { w with G := G5, σ := upds (L2.wipe w.σ vs) lv, H := H5, s := s5, pr := (L, .lst us) :: w.pr }) r5 vs
                dsimp only at r6
                rw [wσ] at r6
                refine ⟨G5, s5, acc, us, (g2.trans g3).trans g5, r6, rs.mono (g3.trans g5), ?_, ?_⟩
                · refine List.all_eq_true.mpr fun x hxm => ?_
                  obtain ⟨i, hi⟩ := List.mem_iff_getElem?.mp hxm
                  by_cases hv2 : i ∈ vs
                  · rw [wipeS_emp hv2 hi]
                  · have key : ∀ (vs : List Nat), i ∉ vs → (wipeS s5 vs).sl[i]? = s5.sl[i]? := by
                      intro vs
                      induction vs with
                      | nil => intro _; rfl
                      | cons v vs ih =>
                        intro hn
                        simp only [List.mem_cons, not_or] at hn
                        show ((wipeS s5 vs).sl.set v .emp)[i]? = _
                        rw [List.getElem?_set_ne (Ne.symm hn.1), ih hn.2]
                    rw [key vs hv2] at hi
                    exact List.all_eq_true.mp hx5 _ (List.mem_of_getElem? hi)
                · exact okG.up (w := { w with G := G2, H := H2, s := wipeS s2 vs }) h2' (g3.trans g5)
              · exact h2'.elim
            | true =>
              simp only [if_true] at h2' ⊢
              cases hm : m s5 with
              | exc y s6 => simp only [hm] at h2'; exact h2'.elim
              | stuck => simp only [hm] at h2'; exact h2'.elim
              | ok z s6 =>
                simp only [hm] at h2'
                split at h2'
                · rename_i hf
                  refine ⟨_, rfl, rfl, r5, ?_⟩
                  show okG X.K [] WF (AR X.K) _ _ (m s5)
                  rw [hm]
                  intro G6 y H6 g6 r6 p6
                  have hH : H6 L = some (.lst us) := (r6.pr (L, .lst us) List.mem_cons_self).1
                  refine ⟨us, hH, ?_, ?_⟩
                  · rw [rs.length]; exact hf.1.line
                  · have r7 := Rel.prPut (o' := .lst (us ++ [y])) r6 rfl hl
                    have r8 := Rel.wipe r7 vs
                    dsimp only at r8
                    rw [wσ] at r8
                    refine ⟨G6, s6, acc ++ [z], us ++ [y], ((g2.trans g3).trans g5).trans g6, r8, (rs.mono ((g3.trans g5).trans g6)).append (.cons p6 .nil), ?_, ?_⟩
                    · refine List.all_eq_true.mpr fun x hxm => ?_
                      obtain ⟨i, hi⟩ := List.mem_iff_getElem?.mp hxm
                      by_cases hv2 : i ∈ vs
                      · rw [wipeS_emp hv2 hi]
                      · have key : ∀ (vs : List Nat), i ∉ vs → (wipeS s6 vs).sl[i]? = s6.sl[i]? := by
                          intro vs
                          induction vs with
                          | nil => intro _; rfl
                          | cons v vs ih =>
                            intro hn
                            simp only [List.mem_cons, not_or] at hn
                            show ((wipeS s6 vs).sl.set v .emp)[i]? = _
                            rw [List.getElem?_set_ne (Ne.symm hn.1), ih hn.2]
                        rw [key vs hv2] at hi
                        exact List.all_eq_true.mp hf.2 _ (List.mem_of_getElem? hi)
                    · exact okG.up (w := { w with G := G2, H := H2, s := wipeS s2 vs }) h2' ((g3.trans g5).trans g6)
                · exact h2'.elim
      · have e : i = ds.length := by omega
        subst e
        rw [List.drop_length] at h2
        refine .inl ⟨I.stop _ _ r2 g2 _ (Nat.le_refl _), ?_⟩
        obtain ⟨r9, a9⟩ := Rel.prPop r2 rfl hl rs
        have r10 := Rel.unwipe (w := { w with G := G2, H := H2 }) (σ := w.σ) (s := s2) (vs := vs) r9
        have a10 : AF X.K { w with G := G2, H := H2, s := wipeS s2 vs } (.ref L) acc := by
          obtain ⟨a, us', e1, e2, e3, e4, e5, e6, e7, e8⟩ := a9
          refine ⟨a, us', e1, e2, e3, e4, e5, e6, fun i es q1 q2 => ?_, e8⟩
          have : i ∉ vs := fun hi => by cases wipeS_emp hi q1
          exact e7 i es q1 ((wipe_out this).trans q2)
        exact h2 G2 _ H2 (.refl _) (Rel.pn r10 hx2) a10
  · exact h'.elim
/-- [elt for tg in iter if ..] -/
theorem jf_lc (hc : X.calm = true) (hN : X.N.Nodup) (hi : JI X W tg iter it) (ok : BlkOk X.N X.env.scope scope own)
    (hg : ∀ (s : Shared) (H : Hp) (C : Addr) (cl : List (Str × Addr)) (fp : List Addr), JG (X.blk s H scope (compEnvC scope cl C X.env) fp) tg g ix) (ht : ∀ (s : Shared) (H : Hp) (C : Addr) (cl : List (Str × Addr)) (fp : List Addr), JTs (X.blk s H scope (compEnvC scope cl C X.env) fp) WF ifs t)
    (he : ∀ (s : Shared) (H : Hp) (C : Addr) (cl : List (Str × Addr)) (fp : List Addr), JE (X.blk s H scope (compEnvC scope cl C X.env) fp) WF elt m) (hix : ∀ i ∈ ix, i ∈ own.map (·.2) := by decide) (hs : ∀ x, foldedSetIterable iter X.env x = pure x := by intro _; rfl) :
    JF X W (.ListComp elt [⟨tg, iter, ifs, 0⟩] scope pos) (mLc it g t m (own.map (·.2))) := by
  have hgx : ∀ d l, g d = some l → ∀ p ∈ l, p.1 ∈ ix := (hg (X.s_0) (X.H_0) 0 [] []).ix
  exact PE.imp (pe_lc (g := tTg X.K g) (tt := tG X.K [] WF AB t) (te := tG X.K [] WF (AR X.K) m) hc hN hi ok (fun s H C cl fp => (hg s H C cl fp).pg) (fun s H C cl fp => ht s H C cl fp) (fun s H C cl fp => he s H C cl fp) hs) fun σ H Q h => lc_run hix hgx h
/-- y = [elt for tg in iter if ..], on one line -/
theorem js_lc {i : Nat} {y : Str} {py spos : Pos} (hc : X.calm = true) (hN : X.N.Nodup) (hy : X.N[i]? = some y) (hyl : X.env.scope.names.lookup y = some .local)
    (hsw : swapsWith (.ListComp elt [⟨tg, iter, ifs, 0⟩] scope pos) (some (.Name y py)) spos.line X.env = pure true) (hi : JI X W tg iter it) (ok : BlkOk X.N X.env.scope scope own)
    (hg : ∀ (s : Shared) (H : Hp) (C : Addr) (cl : List (Str × Addr)) (fp : List Addr), JG (X.blk s H scope (compEnvC scope cl C X.env) fp) tg g ix) (ht : ∀ (s : Shared) (H : Hp) (C : Addr) (cl : List (Str × Addr)) (fp : List Addr), JTs (X.blk s H scope (compEnvC scope cl C X.env) fp) WF ifs t)
    (he : ∀ (s : Shared) (H : Hp) (C : Addr) (cl : List (Str × Addr)) (fp : List Addr), JE (X.blk s H scope (compEnvC scope cl C X.env) fp) WF elt m) (hix : ∀ i ∈ ix, i ∈ own.map (·.2) := by decide) (hs : ∀ x, foldedSetIterable iter X.env x = pure x := by intro _; rfl) :
    JS X W (.Assign [.Name y py] (.ListComp elt [⟨tg, iter, ifs, 0⟩] scope pos) spos) (mOwn i (mLc it g t m (own.map (·.2)))) := by
  have hgx : ∀ d l, g d = some l → ∀ p ∈ l, p.1 ∈ ix := (hg (X.s_0) (X.H_0) 0 [] []).ix
  refine PS.imp (ps_setLc (g := tTg X.K g) (tt := tG X.K [] WF AB t) (te := tG X.K [] WF (AR X.K) m) hc hN hy hyl hsw hi ok (fun s H C cl fp => (hg s H C cl fp).pg) (fun s H C cl fp => ht s H C cl fp) (fun s H C cl fp => he s H C cl fp) hs) fun D σ H h => ?_
  obtain ⟨w, rfl, rfl, r, h⟩ := h
  refine lc_run hix hgx ?_
  refine runS r h fun d s' G' v H' g r' p h' => ?_
  exact h' G' _ H' (.refl _) (r'.setOwn (i := i) p)
end
end
end DL

namespace DL
open PySem PySem.Spec PySem.W PySem.Calls PyProof.Rows PySem.HandSPX
/-! ### an error class of the program, over ValueError, whose __init__ says super().__init__('..') and stores one field -/
structure XPos where
  (a1 a2 b1 b2 b3 b4 b5 c1 c2 c3 c4 : Pos)
def xParams (f : Str) (p : XPos) : Arguments := { posonlyargs := [], args := [{ arg := "self", annotation := none, pos := p.a1 }, { arg := f, annotation := none, pos := p.a2 }], vararg := none, kwonlyargs := [], kw_defaults := [], kwarg := none, defaults := [] }
def xSuper (txt : Str) (p : XPos) (p6 : Pos) : Stmt := .Expr (.Call (.Attribute (.Call (.Name "super" p.b1) [] [] p.b2) "__init__" p.b3) [.Constant (.str txt) 0 p.b4] [] p.b5) p6
def xStore (f : Str) (p : XPos) : Stmt := .Assign [.Attribute (.Name "self" p.c1) f p.c2] (.Name f p.c3) p.c4
def xScope (f : Str) : Scope := { kind := .function, names := [(PySem.Str.ofString "self", .local), (f, .local), (PySem.Str.ofString "__class__", .free), (PySem.Str.ofString "super", .globalImplicit)], isGenerator := false, isCoroutine := false, more := [] }
/-- what the written part says of the class at C -/
structure XC (P : Program) (K : Frag) (mg : Str → Option Value) (C : Addr) (f : Str) : Prop where
  ini : excInitIn K C veTail "ValueError.__new__" = true
  ref : ∃ cd, clsIn K C = some cd ∧ refsVE cd.mro = true ∧ cd.hasDict = true
  sa : findIn K (.ref C) "__setattr__" = some (some (.builtin "object.__setattr__"))
  no : findIn K (.ref C) f = some none
  kp : keepIn K (.ref C) = true
  ex : subIn K (.ref C) (.type "BaseException") = some true
  ve : subIn K (.ref C) (.type "ValueError") = some true
  ty : typeIn K (.ref C) = some (.type "type")
  sup : ks_superIn K C C "__init__" = some (some (.builtin "ValueError.__init__"))
  mro : mroIn K C (.ref C) = some true
  opq : nsIn K cStatics "thirdparty.any" = some none
  gs : mg "super" = none
  top : (P.main.scope.names.lookup ("super" : Str)).isSome = false
  fn : ∃ (fI : Addr) (oc : Value) (od : Option Addr) (doc pm : Value) (an : Option Addr) (cda : Addr) (ct : Value) (osl : Array (Option Value)) (cc : Addr) (p : XPos) (p6 : Pos) (txt q : Str), (p.b3.endLine == p.b5.line) = true ∧
    (∀ a b, bindArgs (fnX "__init__" q (xParams f p) [xSuper txt p p6, xStore f p] (xScope f) [("__class__", cc)] .none .none doc pm an (.ref cda) ct) ⟨[a, b], []⟩ = pure [(("self" : Str), a), (f, b)]) ∧
    findIn K (.ref C) "__init__" = some (some (.ref fI)) ∧ typeIn K (.ref fI) = some (.type "function") ∧
    K.lookup fI = some ⟨oc, od, .func (fnX "__init__" q (xParams f p) [xSuper txt p p6, xStore f p] (xScope f) [("__class__", cc)] .none .none doc pm an (.ref cda) ct), osl⟩ ∧ codeIn K (.ref cda) q = true ∧
    (∃ (ccl : Value) (cdd : Option Addr) (vs : Array Value) (ccs : Array (Option Value)) (file : Str) (tf : Tok), K.lookup cda = some ⟨ccl, cdd, .fields vs, ccs⟩ ∧ vs[2]? = some (.str file tf) ∧ ((P.main.file : Str) == file) = true) ∧
    ∃ (cl : Value) (cld : Option Addr) (csl : Array (Option Value)), K.lookup cc = some ⟨cl, cld, .cell (some (.ref C)), csl⟩
  nf : ¬ f = "self" ∧ ¬ f = "super" ∧ ¬ f = "__class__" ∧ (f == ("__debug__" : Str)) = false

section
variable {prog : Program} {w : World} {A : Around} {E : Value → Shared → Prop} {h : Heap} {g : Array GenState} {d : Drawn} {t : Nat} {os : OsState}
/-- super().__init__(..), bound to the error at e, is called -/
theorem call_mw {K : Frag} {C u e t0 : Addr} {rest : List Value} {Q : Value → Shared → Prop} (X : K.In h) (q : excInitIn K C veTail "ValueError.__new__" = true)
    (he : h.get? e = some (excO C t0)) (hu : h.get? u = some (kxs_mw "ValueError.__init__" e)) (hrest : rest.length ≤ sizeLine)
    (hq : ∀ h' t1, (∀ b o, b ≠ e → h.get? b = some o → h'.get? b = some o) → h'.get? e = some (excO C t1) → Q .none ⟨h', g, d, t, os⟩) :
    wpAny (model prog w) A (call (.ref u) rest) Q E ⟨h, g, d, t, os⟩ := by
  obtain ⟨nm, N', qn, bs, bm, hdct, sn, sub, ab, col, dd, k0, k1, k2, k3, k5, hC, hT⟩ := excInit_of X q
  refine wpAny_call (codeAny_of_tree ?_)
  show wpAny _ A.in1 (callAny (.ref u) ⟨rest, []⟩) _ _ _
  simp only [callAny]
  refine wpAny_bind (wpAny_load hu ?_)
  simp only [kxs_mw, show (Value.type "method-wrapper" == Value.type "method" || Value.type "method-wrapper" == Value.type "builtin_function_or_method" || Value.type "method-wrapper" == Value.type "method-wrapper") = true by decide, if_true]
  refine KFB.if_so (by decide) ?_
  refine wpAny_bind (check_bound_init F.excBase_ValueError.toExcCallFacts hC he rfl ?_)
  refine wpAny_bind (wpAny_pure (wpAny_pure ?_))
  refine ⟨plainId_quiet F.excBase_ValueError.init.plain _, codeAny_builtin F.excBase_ValueError.initEntry ?_⟩
  exact exc_init_tree (cls := .ref C) (t0 := t0) (dv := none) (c2 := .none) (c3 := .none) (b4 := .bool false) he hrest fun h' k e' _ => hq h' _ k e'
end
/-- what __init__ leaves of a fresh error at x -/
structure XEnd (h h' : Heap) (x C dx t1 : Addr) (f : Str) (v : Value) : Prop where
  keep : ∀ b o, b ≠ x → h.get? b = some o → h'.get? b = some o
  obj : h'.get? x = some { cls := .ref C, dict := some dx, data := .fields #[.ref t1, .none, .none, .none, .bool false, .none] }
  dbig : h.objs.size ≤ dx
  dne : dx ≠ x
  ns : h'.Ns1 dx (fun y => if y = f then some v else none)
section
variable {prog : Program} {w : World} {A : Around} {E : Value → Shared → Prop} {R : Result → Shared → Prop} {s : Shared} {K : Frag} {mg : Str → Option Value} {C : Addr} {f : Str}
theorem x_init (T : XC prog K mg C f) {x t0 fI : Addr} {v : Value} (hfI : findIn K (.ref C) "__init__" = some (some (.ref fI))) (X : K.In s.heap) (hlim : s.heap.NoLimit) (hg : s.heap.Ns mainGlobals mg) (hb : ∃ mb, s.heap.Ns builtinsNs mb ∧ ∀ x : Str, x ≠ "__name__" → mb x = bootBuiltins x)
    (hx : s.heap.get? x = some (excO C t0)) (hnx : K.lookup x = none) (hroom : A.depth < recursionLimit)
    (hq : ∀ h' tk dx t1, XEnd s.heap h' x C dx t1 f v → R (.ok (.ret .none)) { s with heap := h', toks := tk }) :
    codeAny (model prog w) A (.call (.ref fI) ⟨[.ref x, v], []⟩) R s := by
  obtain ⟨fI', oc, od, doc, pm, an, cda, ct, osl, cc, p, p6, txt, q, hli, hbd, a1, a2, ho, hcd, ⟨ccl, cdd, vs, ccs, file, tf, hk1, hk2, hk3⟩, cl, cld, csl, hcc⟩ := T.fn
  rw [hfI] at a1
  cases a1
  obtain ⟨cd, hcl, hre, hdct⟩ := T.ref
  obtain ⟨n1, n2, n3, n4⟩ := T.nf
  obtain ⟨mb, hb1, hb2⟩ := hb
  have m1 : (f == (PySem.Str.ofString "super")) = false := by simpa using n2
  have m2 : (f == (PySem.Str.ofString "self")) = false := by simpa using n1
  have kf : (xScope f).names.lookup f = some .local := by
    show List.lookup f [(PySem.Str.ofString "self", NameKind.local), (f, .local), (PySem.Str.ofString "__class__", .free), (PySem.Str.ofString "super", .globalImplicit)] = some .local
    simp [List.lookup, m1, m2]
  have kcl : (xScope f).names.lookup ("__class__" : Str) = some .free := by
    have e : ((PySem.Str.ofString "__class__") == f) = false := by simpa using fun z => n3 z.symm
    show List.lookup (PySem.Str.ofString "__class__") [(PySem.Str.ofString "self", NameKind.local), (f, .local), (PySem.Str.ofString "__class__", .free), (PySem.Str.ofString "super", .globalImplicit)] = some .free
    have e1 : ((PySem.Str.ofString "__class__") == (PySem.Str.ofString "super")) = false := by decide +kernel
    have e2 : ((PySem.Str.ofString "__class__") == (PySem.Str.ofString "self")) = false := by decide +kernel
    simp [List.lookup, e1, e2, e]
  have ksu : (xScope f).names.lookup ("super" : Str) = some .globalImplicit := by
    have e : ((PySem.Str.ofString "super") == f) = false := by simpa using fun z => n2 z.symm
    show List.lookup (PySem.Str.ofString "super") [(PySem.Str.ofString "self", NameKind.local), (f, .local), (PySem.Str.ofString "__class__", .free), (PySem.Str.ofString "super", .globalImplicit)] = some .globalImplicit
    have e1 : ((PySem.Str.ofString "super") == (PySem.Str.ofString "self")) = false := by decide +kernel
    have e2 : ((PySem.Str.ofString "super") == (PySem.Str.ofString "__class__")) = false := by decide +kernel
    simp [List.lookup, e1, e2, e]
  refine ks_codeAny_call_defAt (binds := [("self", .ref x), (f, v)]) hroom (X _ _ ho) rfl hlim (codeRec_of X hcd) rfl (BindsTo.of_eq ?_) ?_ ?_ (fun h₁ hns k₁ => ?_) rfl rfl rfl
  · exact hbd _ _
  · intro y hy
    have hy : y ∈ [(PySem.Str.ofString "self", NameKind.local), (f, .local), (PySem.Str.ofString "__class__", .free), (PySem.Str.ofString "super", .globalImplicit)] := hy
    simp only [List.mem_cons, List.not_mem_nil, or_false] at hy
    rcases hy with z | z | z | z <;> (subst z; simp)
  · intro y hy
    simp only [List.mem_cons, List.not_mem_nil, or_false] at hy
    rcases hy with z | z
    · subst z; rfl
    · subst z; exact kf
  · have X₁ : K.In h₁ := X.keeps k₁
    have hx₁ := k₁ _ _ hx
    have xlt : x < s.heap.objs.size := Heap.lt_size hx
    refine ks_wpAt_execs_cons (ks_wpAt_Expr_any (ks_wpAt_MethodCall (pl := do return (← importBound (.Call (.Name "super" p.b1) [] [] p.b2) (callEnv (fnX "__init__" q (xParams f p) [xSuper txt p p6, xStore f p] (xScope f) [("__class__", cc)] .none .none doc pm an (.ref cda) ct) s.heap.objs.size fI)).getD true) ?_ ?_))
    · refine ks_wpAt_super_base (env := callEnv (fnX "__init__" q (xParams f p) [xSuper txt p p6, xStore f p] (xScope f) [("__class__", cc)] .none .none doc pm an (.ref cda) ct) s.heap.objs.size fI) (ar := { arg := "self", annotation := none, pos := p.a1 }) ksu kcl (by decide +kernel) rfl (X₁ _ _ ho) rfl rfl rfl (X₁ _ _ hk1) rfl hk2 hk3 T.top ?_
      refine ks_loadName_global rfl ksu (loadGlobal_builtin (hg.keeps k₁) T.gs (hb1.keeps k₁) ((hb2 _ (by decide +kernel)).trans (by decide +kernel)) ⟨rfl, ?_⟩)
      refine wpAny_loadName_free rfl kcl rfl ⟨_, X₁ _ _ hcc, rfl⟩ ?_
      refine wpAny_loadName_local rfl rfl hns (v := .ref x) ?_ ?_
      · show List.lookup _ _ = _
        have e : ((PySem.Str.ofString "self") == f) = false := by simpa using fun z => n1 z.symm
        simp [List.lookup, e]
      obtain ⟨oD, hD1, hD2⟩ : ∃ oD, h₁.get? C = some oD ∧ oD.data = .cls cd := by
        unfold clsIn at hcl
        split at hcl
        · rename_i c d cd' sl hh
          cases hcl
          exact ⟨_, X₁ _ _ hh, rfl⟩
        · cases hcl
      have I1 : InstAt h₁ x (excO C t0) C none := ⟨hx₁, rfl, rfl, trivial⟩
      refine ks_wpAny_isType_cls hD1 hD2 ⟨rfl, ?_⟩
      refine ks_wpAny_call_super hD1 hD2 hx₁ rfl (fun c e => nomatch e) (looks_mroIn X₁ T.mro) (fun h2 e2 k2 => ?_)
      have X₂ : K.In h2 := X₁.keeps k2
      have hx₂ := k2 _ _ hx₁
      have I2 : InstAt h2 x (excO C t0) C none := ⟨hx₂, rfl, rfl, trivial⟩
      have sup := T.sup
      unfold ks_superIn at sup
      rw [hcl] at sup
      refine kxs_getMethod kxs_ValueError e2 (looks_opaque X₂ T.opq) (l₀ := cd.mro) (fun A Q E s k q => wpAny_bind ((looks_clsIn X₂ hcl) A _ E s k (wpAny_pure q))) rfl X₂ sup (I2.type.andThen (looks_subIn X₂ T.ve)) (ks_ne X₂ I2 hcl) (by decide +kernel) ?_
      have hu : (h2.push (kxs_mw "ValueError.__init__" x)).get? h2.objs.size = some (kxs_mw "ValueError.__init__" x) := Heap.get?_push_at rfl rfl
      have k3 : ∀ b o, h2.get? b = some o → (h2.push (kxs_mw "ValueError.__init__" x)).get? b = some o := fun b o e => Heap.get?_push_of_some _ e
      refine kxs_callWith (i := "ValueError.__init__") (x := x) rfl (evalArgs_plain ?_)
      refine Calls.spliced_cons (Calls.Constant_str (k := 0) (pos := p.b4) (Calls.spliced_nil ⟨hu, ?_⟩))
      refine call_mw (X₂.keeps k3) T.ini (k3 _ _ hx₂) hu (by rw [sizeLine_eq]; show 1 ≤ 16777216; decide) fun h4 t1 k4 hx4 => ?_
      have keep4 : ∀ b o, b ≠ x → h₁.get? b = some o → h4.get? b = some o := fun b o hb e => k4 b o hb (k3 b o (k2 b o e))
      have X₄ : K.In h4 := fun a o e => keep4 a o (fun z => by rw [z, hnx] at e; cases e) (X₁ a o e)
      have hns4 : h4.Ns s.heap.objs.size (fun y => List.lookup y [(f, v), (PySem.Str.ofString "self", Value.ref x)]) := hns.at (fun o e => keep4 _ o (Nat.ne_of_gt xlt) e)
      refine wpAt_of_wpAny ?_
      refine wpAny_execs_cons (plainObj_wpAny_Assign_Attribute ?_)
      have kfe : (callEnv (fnX "__init__" q (xParams f p) [xSuper txt p p6, xStore f p] (xScope f) [("__class__", cc)] .none .none doc pm an (.ref cda) ct) s.heap.objs.size fI).kindOf f = some .local := kf
      refine wpAny_Name (wpAny_loadName_local rfl kfe hns4 (v := v) (by simp [List.lookup]) ?_) n4
      have esf : ((PySem.Str.ofString "self") == f) = false := by simpa using fun z => n1 z.symm
      refine wpAny_Name (wpAny_loadName_local rfl rfl hns4 (v := .ref x) (by simp [List.lookup, esf]) ?_) (by decide +kernel)
      refine set_plain X₄ (ox := excO C t1) (od := none) ⟨hx4, rfl, rfl, trivial⟩ T.sa ?_
      refine exc_osa X₄ hx4 hcl hre hdct T.no (fun h5 tk5 dx k5 dn dne hx5 hn5 => ?_)
      have z1 : s.heap.objs.size < h4.objs.size := hns4.lt
      exact wpAny_execs_nil (hq h5 tk5 dx t1 ⟨fun b o hb e => k5 b o hb (keep4 b o hb (k₁ b o e)), hx5, Nat.le_of_lt (Nat.lt_of_lt_of_le z1 dn), dne, hn5⟩)
    · rw [arm_eval_Call]
      unfold methodCall calleeOf methodCallPos
      simp only [hli, Bool.or_true, if_true, pure_bind]
      rfl
end
end DL

namespace DL
open PySem PySem.Spec PySem.W PySem.Calls PyProof.Rows PySem.HandSPX
/-- a made error -/
structure XMade (h h' : Heap) (e C d : Addr) (f : Str) (v : Value) : Prop where
  keep : ∀ b o, h.get? b = some o → h'.get? b = some o
  new : h.objs.size ≤ e
  obj : ∃ oe vs, h'.get? e = some oe ∧ oe.cls = .ref C ∧ oe.dict = some d ∧ oe.data = .fields vs ∧ vs[1]? = some .none
  dbig : h.objs.size ≤ d
  dne : d ≠ e
  ns : h'.Ns1 d (fun y => if y = f then some v else none)
section
variable {prog : Program} {w : World} {A : Around} {R : Result → Shared → Prop} {s : Shared} {K : Frag} {mg : Str → Option Value} {C : Addr} {f : Str}
theorem x_made (T : XC prog K mg C f) {v : Value} (X : K.In s.heap) (hlim : s.heap.NoLimit) (hg : s.heap.Ns mainGlobals mg) (hb : ∃ mb, s.heap.Ns builtinsNs mb ∧ ∀ x : Str, x ≠ "__name__" → mb x = bootBuiltins x) (hroom : A.depth + 1 < recursionLimit)
    (hq : ∀ h' tk e d, XMade s.heap h' e C d f v → R (.ok (.ret (.ref e))) { s with heap := h', toks := tk }) :
    codeAny (model prog w) A (.call (.ref C) ⟨[v], []⟩) R s := by
  obtain ⟨nm, N', qn, bs, bm, hdct, sn, sub, ab, col, dd, k0, k1, k2, k3, k5, hC, hT⟩ := excInit_of X T.ini
  obtain ⟨fI, oc, od, doc, pm, an, cda, ct, osl, cc, p, p6, txt, q, _, _, hfI, htI, _⟩ := T.fn
  obtain ⟨hp, g, dr, tk, os⟩ := s
  have k : ∀ b o, hp.get? b = some o → ((hp.push (kdv_tup [v])).push (excO C hp.objs.size)).get? b = some o := fun b o e => Heap.get?_push_of_some _ (Heap.get?_push_of_some _ e)
  have hget : ((hp.push (kdv_tup [v])).push (excO C hp.objs.size)).get? (hp.objs.size + 1) = some (excO C hp.objs.size) := by heap_get
  have hnx : K.lookup (hp.objs.size + 1) = none := by
    cases e : K.lookup (hp.objs.size + 1) with
    | none => rfl
    | some o =>
      have z : hp.get? (hp.objs.size + 1) = some o := X _ _ e
      exact absurd (Nat.lt_of_succ_lt (Heap.lt_size z)) (Nat.lt_irrefl _)
  obtain ⟨mb, hb1, hb2⟩ := hb
  refine call_own F.excBase_ValueError hT hC (looks_findIn X hfI) (fun self => bind_fn X self htI) (by show 1 ≤ sizeLine; rw [sizeLine_eq]; decide) ?_
  refine x_init (s := ⟨(hp.push (kdv_tup [v])).push (excO C hp.objs.size), g, dr, tk, os⟩) T hfI (X.keeps k) (hlim.keeps k) (hg.keeps k) ⟨mb, hb1.keeps k, hb2⟩ hget hnx hroom fun h' tk' dx t1 en => ?_
  obtain ⟨k', hx, dn, dne, hns⟩ := en
  have old : ∀ b o, hp.get? b = some o → h'.get? b = some o := fun b o e => k' b o (Nat.ne_of_lt (Nat.lt_succ_of_lt (Heap.lt_size e))) (k b o e)
  have z : hp.objs.size + 1 + 1 ≤ dx := by
    have q := dn
    simp only [Heap.size_push] at q
    exact q
  exact ⟨rfl, hq h' tk' (hp.objs.size + 1) dx ⟨old, Nat.le_succ _, ⟨_, _, hx, rfl, rfl, rfl, rfl⟩, (show hp.objs.size ≤ dx by omega), dne, hns⟩⟩
end
end DL
namespace DL
open PySem PySem.Spec L2
theorem relO_one {v : V} {v' : Value} {f : Str} (r : RelV v v') (y : Str) : RelO (List.lookup y [(f, v)]) (if y = f then some v' else none) := by
  by_cases e : y = f
  · subst e
    rw [if_pos rfl]
    have q : List.lookup y [(y, v)] = some v := by simp [List.lookup]
    rw [q]
    exact r
  · rw [if_neg e]
    have q1 : (y == f) = false := by simpa using e
    have q : List.lookup y [(f, v)] = none := by simp [List.lookup, q1]
    rw [q]
    trivial
section
variable {X : Cx} {C : Addr} {f c : Str}
def tMkX (C : Addr) (f : Str) (ta : TA) : L2.St → Hp → XK → Prop := fun σ H Q => ta σ H fun vs H1 => ∃ v, vs = [v] ∧ ∀ d, H1 d = none → Q (.ref C) (some d) (upd H1 d (.xd [(f, v)]))
theorem pmk_x {a : Expr} {ta : TA} {p pos : Pos} {k : Nat} (T : XC X.prog X.K X.mg C f) (hm : X.mg c = some (.ref C)) (hr : Room k X.A) (ha : PA X [a] ta) (hg : Gl X c) (hdb : (c == ("__debug__" : Str)) = false := by decide)
    (he : starEach (a :: []) X.env = (false, eval a X.env) :: starEach [] X.env := by rfl) (hpl : (backTo pos (starEach [] X.env)).any (·.1) = false := by rfl) :
    PMk X (.Call (.Name c p) [a] [] pos) (tMkX C f ta) := by
  intro pins s σ H Q I h
  refine wpAny_Call_Name_kw (ld_glob I hg hm ?_ hdb)
  refine PySem.W.callWith_K (h₀ := X.base) I.ok.mod.kin T.kp (thn (ha.run pos pins s σ H _ I h) fun us s1 hh => ?_) he hpl
  obtain ⟨vs, H1, I1, r1, v, ev, q1⟩ := hh
  subst ev
  refine ⟨I1.kIn, ?_⟩
  cases r1 with
  | cons rv rn =>
    rename_i v' us'
    cases rn
    show wpAny _ _ (call (.ref C) [v']) _ _ _
    have hlim := I1.nolimit
    have hgl : s1.heap.Ns mainGlobals X.mg := I1.mod.glob.keeps I1.bk
    obtain ⟨mb, hb1, hb2⟩ := I1.mod.blt
    have hbl := hb1.keeps I1.bk
    obtain ⟨hp, g, dr, tk, os⟩ := s1
    refine wpAny_call (x_made T I1.kIn hlim hgl ⟨mb, hbl, hb2⟩ (by have := hr.dp; omega) fun h' tk' e d M => ?_)
    show MkP X pins σ Q (.ref e) ⟨h', g, dr, tk', os⟩
    obtain ⟨oe, fv, hoe, hc, hd, hdat, h1⟩ := M.obj
    have hns := M.ns
    obtain ⟨G', g1, g2⟩ := restrict h' fun b => decide (b ≠ e)
    have gk : ∀ b, b ≠ e → G'.get? b = h'.get? b := fun b hb => g1 b (decide_eq_true hb)
    have ge : G'.get? e = none := g2 e (by simp)
    have old : ∀ b o, hp.get? b = some o → G'.get? b = some o := fun b o q => (gk b (Nat.ne_of_lt (Nat.lt_of_lt_of_le (Heap.lt_size q) M.new))).trans (M.keep b o q)
    have ob : ObjOk X.prog X.w (upd H1 d (.xd [(f, v)])) G' d (.xd [(f, v)]) := ⟨_, hns.at (fun o q => (gk d M.dne).trans q), fun y => relO_one rv y⟩
    have J : Inv X pins σ (upd H1 d (.xd [(f, v)])) ⟨G', g, dr, tk', os⟩ := I1.laid (t' := tk') old M.dbig ob
    refine ⟨e, oe, fv, ⟨G', g, dr, tk', os⟩, _, .ref C, some d, rfl, J, fun b o q => ?_, ge, hoe, ⟨hc, hd⟩, hdat, h1, ?_, rfl, I1.bare, raises_own T.ex T.ty, q1 d (I1.hok.fresh M.dbig)⟩
    · by_cases hb : b = e
      · have q' : G'.get? b = some o := q
        rw [hb, ge] at q'; cases q'
      · exact (gk b hb).symm.trans q
    · rw [upd_ne (Ne.symm M.dne)]
      exact I1.hok.fresh M.new
/-- raise c(e), c the program's error with one field f -/
def mRaise (c f : Str) (m : ME) : MS := bnd m fun d s => .exc ⟨c, [(f, d)]⟩ s
theorem js_raise {a : Expr} {m : ME} {W : WX} {p pos pos2 : Pos} {k : Nat} (hc : X.calm = true) (T : XC X.prog X.K X.mg (He.ga X.K c) f) (hm : X.mg c = some (.ref (He.ga X.K c))) (hr : Room k X.A) (tk : Takes X W) (ha : JE X W a m) (hg : Gl X c) (hdb : (c == ("__debug__" : Str)) = false := by decide)
    (he : starEach (a :: []) X.env = (false, eval a X.env) :: starEach [] X.env := by rfl) (hpl : (backTo pos (starEach [] X.env)).any (·.1) = false := by rfl) :
    JS X W (.Raise (some (.Call (.Name c p) [a] [] pos)) none pos2) (mRaise c f m) := by
  refine PS.imp (ps_raise hc tk (pmk_x T hm hr (pa_cons ha pa_nil he) hg hdb he hpl)) fun D σ H h => ?_
  obtain ⟨w, rfl, rfl, r, h⟩ := h
  refine runS r h fun d s' G' v H' g r' p h' => ?_
  refine ⟨v, rfl, fun dd hd => ?_⟩
  have hn : G'.F dd = none := r'.noF hd
  refine h' _ _ _ _ _ (gle_upd hn) (r'.new hd) ⟨rfl, dd, [(f, v)], rfl, upd_same, ?_⟩
  exact .cons (p.mono (gle_upd hn)) .nil
end
end DL

namespace DL
open PySem PySem.Spec L2
/-! ### try .. except c as n -/
/-- is the error's class one that the clause names: by a table of the program's classes (k: the clause) -/
abbrev Sub := Str → Option Bool
/-- try: b; except (class told by sub) as slot i: h; the slot is empty behind -/
def mTryAs (sub : Sub) (i : Nat) (b h : MS) : MS := fun s => if noX s = true then (match b s with
  | .exc x s' => if noX s' = true then (match sub x.c with
      | some true => (match h (s'.put i (.xn x)) with
        | .ok fl s2 => if noX (s2.put i .emp) = true then .ok fl (s2.put i .emp) else .stuck
        | _ => .stuck)
      | some false => .exc x s'
      | none => .stuck) else .stuck
  | .ok fl s' => if noX s' = true then .ok fl s' else .stuck
  | .stuck => .stuck) else .stuck
theorem Rel.xnSet {K : PySem.W.Frag} {w : Wd} {a : Addr} {oe : Obj} {tl : List (Addr × Obj)} {cls : Value} {d : Option Addr} {x : Exc} {i : Nat} (r : Rel K ((a, oe) :: tl) w) (hz : Zc cls d oe) (hx : XRep K w.G cls d x) : Rel K ((a, oe) :: tl) { w with σ := w.σ.set i (some (.ref a)), s := w.s.put i (.xn x) } := by
  refine ⟨r.ex, r.le, r.st, ⟨by show (w.σ.set i (some (.ref a))).length = (w.s.sl.set i (.xn x)).length; rw [List.length_set, List.length_set]; exact r.sl.len, fun j e q => ?_, fun j ds q => ?_, fun j k ds es b q1 q2 q3 q4 => ?_, fun j y q => ?_⟩, fun q hq => ?_⟩
  · rcases set_get q with ⟨e1, e2⟩ | ⟨e1, e2⟩
    · cases e2
    · obtain ⟨u, h1, h2⟩ := r.sl.imm j e e2
      exact ⟨u, (List.getElem?_set_ne (Ne.symm e1)).trans h1, h2⟩
  · rcases set_get q with ⟨e1, e2⟩ | ⟨e1, e2⟩
    · cases e2
    · obtain ⟨b, vs, h1, h2⟩ := r.sl.own j ds e2
      exact ⟨b, vs, (List.getElem?_set_ne (Ne.symm e1)).trans h1, h2⟩
  · rcases set_get q1 with ⟨e1, e2⟩ | ⟨e1, e2⟩
    · cases e2
    · rcases set_get q2 with ⟨e3, e4⟩ | ⟨e3, e4⟩
      · cases e4
      · exact r.sl.dis j k ds es b e2 e4 ((List.getElem?_set_ne (Ne.symm e1)).symm.trans q3) ((List.getElem?_set_ne (Ne.symm e3)).symm.trans q4)
  · have hl : j < w.σ.length := by rw [r.sl.len]; exact set_lt q
    rcases set_get q with ⟨e1, e2⟩ | ⟨e1, e2⟩
    · subst e1; cases e2
      exact ⟨a, oe, tl, cls, d, rfl, List.getElem?_set_self hl, hz, hx⟩
    · obtain ⟨b, ob, t2, c2, d2, h1, h2, h3⟩ := r.sl.xn j y e2
      exact ⟨b, ob, t2, c2, d2, h1, (List.getElem?_set_ne (Ne.symm e1)).trans h2, h3⟩
  · obtain ⟨p1, p2, p3, p4, p5⟩ := r.pr q hq
    refine ⟨p1, p2, p3, p4, fun j es h1 h2 => ?_⟩
    rcases set_get h1 with ⟨e1, e2⟩ | ⟨e1, e2⟩
    · cases e2
    · exact p5 j es e2 ((List.getElem?_set_ne (Ne.symm e1)).symm.trans h2)
section
variable {X : Cx} {W : WX} {x n : Str} {c : Value} {i : Nat} {body suite : List Stmt} {b₀ : Stmt} {np pos pos' : Pos} {mb mh : MS} {sub : Sub}
theorem js_tryAs (hs : X.stack = X.env :: X.outer) (hf : X.env.frame = some X.env.locals) (hN : X.N.Nodup) (hi : X.N[i]? = some n) (hln : X.env.kindOf n = some .local) (hc : Names X x c) (tk : Takes X W)
    (hsub : ∀ y b, sub y = some b → PySem.W.exmOne X.K (.ref (He.ga X.K y)) c = some b)
    (hb : ∀ (W' : WX) (pn : List (Addr × Obj)) (xe : Value → Shared → Prop), Takes (X.tr pn xe) W' → PassesOwn (model X.prog X.w) X.A X.env xe → JSs (X.tr pn xe) W' body mb)
    (hsu : ∀ (a : Addr) (oe : Obj) (cls : Value) (d : Option Addr) (pn : List (Addr × Obj)), Zc cls d oe → (∃ vs, oe.data = .fields vs) → JSs (X.suite a ((a, oe) :: pn)) WF (b₀ :: suite) mh) :
    JS X W (.Try body [.ExceptHandler (some (.Name x np)) (some n) (b₀ :: suite) pos'] [] [] pos) (mTryAs sub i mb mh) := by
  -- the body is read for any pins: with none
  let tb : WX → TS := fun W' D σ H => ∃ w : Wd, w.σ = σ ∧ w.H = H ∧ Rel X.K [] w ∧ noX w.s = true ∧ (∀ s', (∃ fl, mb w.s = .ok fl s') ∨ (∃ y, mb w.s = .exc y s') → noX s' = true) ∧ okS X.K [] W' w D (mb w.s)
  have h1 : ∀ (W' : WX) (pn : List (Addr × Obj)) (xe : Value → Shared → Prop), Takes (X.tr pn xe) W' → PassesOwn (model X.prog X.w) X.A X.env xe → PSs (X.tr pn xe) body (tb W') := fun W' pn xe t p => PSs.imp (hb W' pn xe t p) fun D σ H h => by
    obtain ⟨w, rfl, rfl, r, nx, nx2, h⟩ := h
    refine ⟨w, rfl, rfl, r.pn nx, ?_⟩
    show okS X.K pn W' w D (mb w.s)
    cases hm : mb w.s with
    | ok fl s' =>
      rw [hm] at h
      have nx3 := nx2 s' (.inl ⟨fl, hm⟩)
      exact fun G' σ' H' g r' => h G' σ' H' g (Rel.pn r' nx3)
    | exc y s' =>
      rw [hm] at h
      have nx3 := nx2 s' (.inr ⟨y, hm⟩)
      exact fun G' σ' c d H' g r' => h G' σ' c d H' g (Rel.pn r' nx3)
    | stuck => rw [hm] at h; exact h
  let ts : Addr → Value → Option Addr → TS := fun a cls d D σ H => ∀ (oe : Obj) (pn : List (Addr × Obj)), Zc cls d oe → tS X.K ((a, oe) :: pn) WF mh D σ H
  have h2 : ∀ (a : Addr) (oe : Obj) (cls : Value) (d : Option Addr) (pn : List (Addr × Obj)), Zc cls d oe → (∃ vs, oe.data = .fields vs) → PSs (X.suite a ((a, oe) :: pn)) (b₀ :: suite) (ts a cls d) := fun a oe cls d pn hz hv =>
    PSs.imp (hsu a oe cls d pn hz hv) fun D σ H h => h oe pn hz
  refine PS.imp (ps_try_as (tb := tb) (ts := ts) (Wout := W) hs hf hN hi hln hc tk h1 h2) fun D σ H h => ?_
  obtain ⟨w, rfl, rfl, r, h⟩ := h
  unfold mTryAs at h
  split at h
  · rename_i nx
    refine ⟨w, rfl, rfl, r.pn nx, nx, fun s' hs' => ?_, ?_⟩
    · rcases hs' with ⟨fl, hm⟩ | ⟨y, hm⟩
      · rw [hm] at h
        dsimp only at h
        split at h
        · assumption
        · exact h.elim
      · rw [hm] at h
        dsimp only at h
        split at h
        · assumption
        · exact h.elim
    · cases hm : mb w.s with
      | stuck => rw [hm] at h; exact h
      | ok fl s' =>
        rw [hm] at h
        dsimp only at h
        split at h
        · rename_i nx2
          exact fun G' σ' H' g r' => h G' σ' H' g (Rel.pn r' nx2)
        · exact h.elim
      | exc y s' =>
        rw [hm] at h
        dsimp only at h
        split at h
        · rename_i nx2
          intro G' σ' cls dd H' g r' hx
          cases hsb : sub y.c with
          | none => simp only [hsb] at h; exact h.elim
          | some b =>
            simp only [hsb] at h
            refine ⟨b, by rw [hx.1]; exact hsub _ _ hsb, fun eb a ha oe pn hz => ?_, fun eb => ?_⟩
            · subst eb
              dsimp only at h
              have r2 := Rel.xnSet (i := i) (Rel.pn (pn' := (a, oe) :: pn) r' nx2) hz hx
              refine ⟨_, rfl, rfl, r2, ?_⟩
              show okS X.K ((a, oe) :: pn) WF _ _ (mh (s'.put i (.xn y)))
              cases hh : mh (s'.put i (.xn y)) with
              | stuck => rw [hh] at h; exact h
              | exc z s2 => rw [hh] at h; exact h.elim
              | ok fl s2 =>
                rw [hh] at h
                dsimp only at h
                split at h
                · rename_i nx3
                  intro G2 σ2 H2 g2 r3
                  have r4 := Rel.pn (pn' := X.pn) (Rel.clr (i := i) (v := none) r3) nx3
                  have h5 := h G2 (σ2.set i none) H2 (g.trans g2) r4
                  cases fl with
                  | nx => exact h5
                  | bk => exact h5
                  | ct => exact h5
                  | rt d => exact h5
                · exact h.elim
            · subst eb
              dsimp only at h
              exact h G' σ' cls dd H' g (Rel.pn r' nx2) hx
        · exact h.elim
  · exact h.elim
end
/-! ### in a suite: the caught error's field, its class -/
/-- e.f, e in slot i -/
def mXf (i : Nat) (c f : Str) : ME := fun s => match s.sl[i]? with
  | some (.xn x) => if x.c = c then (match x.fs.lookup f with
      | some d => .ok d s
      | none => .stuck) else .stuck
  | _ => .stuck
theorem repF_get {K : PySem.W.Frag} {G : Gh} : ∀ {fvs : List (Str × V)} {fs : List (Str × D)} {f : Str} {d : D}, RepF K G fvs fs → fs.lookup f = some d → ∃ v, fvs.lookup f = some v ∧ Rep K G v d
  | _, _, _, _, .nil, h => by cases h
  | _, _, f, d, .cons (f := g) (v := v) (d := d') p r, h => by
    by_cases e : (f == g) = true
    · simp only [List.lookup, e] at h
      cases h
      exact ⟨v, by simp only [List.lookup, e], p⟩
    · have e : (f == g) = false := by simpa using e
      simp only [List.lookup, e] at h
      obtain ⟨u, h1, h2⟩ := repF_get r h
      exact ⟨u, by simp only [List.lookup, e]; exact h1, h2⟩
section
variable {X : Cx} {a : Addr} {oe : Obj} {cls : Value} {d : Option Addr} {pn : List (Addr × Obj)} {i : Nat} {y n c : Str} {p pos : Pos}
theorem je_xf (T : XfC X.K (He.ga X.K c)) (hno : PySem.W.findIn X.K (.ref (He.ga X.K c)) n = some none) (hz : Zc cls d oe) (hf : ∃ vs, oe.data = .fields vs) (hN : X.N[i]? = some y := by rfl) (hv : Vis X.env.scope y := by first | exact Or.inl rfl | exact Or.inr (Or.inl rfl) | exact Or.inr (Or.inr rfl)) (hd : (y == ("__debug__" : Str)) = false := by decide) (hcd : (y == ("__classdict__" : Str)) = false := by decide)
    (hb : attributeBase (.Name y p) n X.env (eval (.Name y p) X.env) = eval (.Name y p) X.env := by rfl) : JE (X.suite a ((a, oe) :: pn)) WF (.Attribute (.Name y p) n pos) (mXf i c n) := by
  refine PE.imp (pe_xf (C := He.ga X.K c) T hno hz hf (pv (X := X.suite a ((a, oe) :: pn)) i hN hv hd hcd) hb) fun σ H Q h => ?_
  obtain ⟨w, rfl, rfl, r, h⟩ := h
  unfold mXf at h
  split at h
  · rename_i x hx
    split at h
    · rename_i hc
      split at h
      · rename_i dd hl
        obtain ⟨a', oe', tl, cls', d', e1, e2, e3, e4⟩ := r.sl.xn i x hx
        cases e1
        obtain ⟨z1, z2⟩ := hz
        obtain ⟨z3, z4⟩ := e3
        have ec : cls' = cls := z3.symm.trans z1
        have ed : d' = d := z4.symm.trans z2
        subst ec ed
        obtain ⟨q1, q2⟩ := e4
        cases hfs : x.fs with
        | nil => rw [hfs] at hl; cases hl
        | cons g gs =>
          rw [hfs] at q2 hl
          obtain ⟨b, fvs, k1, k2, k3⟩ := q2
          obtain ⟨v, l1, l2⟩ := repF_get k3 hl
          exact ⟨_, e2, rfl, by rw [q1, hc], b, fvs, v, k1, r.ex _ _ k2, l1, h _ _ _ (.refl _) r l2⟩
      · exact h.elim
    · exact h.elim
  · exact h.elim
end
end DL

namespace DL
open PySem PySem.Spec L2

/-! ### isinstance(x, T), T a built-in type -/
def tyD : D → Option String
  | .non => some "NoneType" | .bl _ => some "bool" | .int _ => some "int" | .str _ => some "str" | .tup _ => some "tuple"
  | .lst _ => some "list" | .kl _ => some "list" | .nod => some "dict" | .loc _ => none | .ins _ _ => none
def subT (a b : String) : Bool := a == b || (a == "bool" && b == "int")
def tysL : List String := ["NoneType", "bool", "int", "str", "tuple", "list", "dict"]
def tysR : List String := ["bool", "int", "str", "tuple", "list", "dict"]
theorem kit_tab : (tysL.all fun a => tysR.all fun b => decide (kitB a b = some (subT a b))) = true := by decide +kernel
theorem tyD_in {d : D} {t : String} (h : tyD d = some t) : t ∈ tysL := by
  cases d <;> cases h <;> simp [tysL]
theorem kit_tb {K : PySem.W.Frag} {a b : String} (ha : a ∈ tysL) (hb : b ∈ tysR) : PySem.W.kitOne K (.type a) (.type b) = some (subT a b) := by
  have h := kit_tab
  rw [List.all_eq_true] at h
  have h2 := h a ha
  rw [List.all_eq_true] at h2
  exact kit_ty (of_decide_eq_true (h2 b hb))
theorem tyx_of {K : PySem.W.Frag} {pn : List (Addr × Obj)} {w : Wd} {x : V} {d : D} {t : String} (r : Rel K pn w) (p : AL K w x d) (h : tyD d = some t) : TyX K w.H x (.type t) := by
  have ls : ∀ {a : Addr} {vs : List V}, SqL K w.H a vs → TyX K w.H (.ref a) (.type "list") := fun {a vs} hs => by
    rcases hs with (q | ⟨o, q⟩) | ⟨o, its, n, h1, h2, _⟩
    · exact .base (.lst q)
    · exact .base (.frz q)
    · exact .kList h1 h2
  rcases p with p | ⟨a, vs, ds, rfl, rfl, h1, _⟩
  · cases p with
    | non => cases h; exact .base .non
    | bl b => cases h; exact .base (.bl b)
    | int i => cases h; exact .base (.int i)
    | str z => cases h; exact .base (.str z)
    | tup hs _ =>
      cases h
      exact .base (.tup (r.ex _ _ hs))
    | lst hs _ => cases h; exact ls (SqL.of (r.ex _ _ hs))
    | kl hs _ => cases h; exact ls (sqL_mono r.ex hs)
    | nod hs => cases h; exact .base (.dK (r.ex _ _ hs))
    | loc _ => cases h
    | ins _ _ => cases h
  · cases h; exact ls (SqL.of h1)
def fIsi (T : String) (d : D) : Option D := (tyD d).map fun t => .bl (subT t T)
/-- of one of several types -/
def fIsiA (Ts : List String) (d : D) : Option D := (tyD d).map fun t => .bl (Ts.any (subT t))
section
variable {X : Cx} {W : WX} {e : Expr} {m : ME} {pos p q : Pos} {x : Str}
theorem pe_tyN {T : String} (hg : Gl X x) (hm : X.mg x = none) (hv : bootBuiltins x = some (.type T)) (hn : x ≠ "__name__" := by decide) (hdb : (x == ("__debug__" : Str)) = false := by decide) : PE X (.Name x pos) (tC (.ty T)) :=
  ⟨fun pins s σ H Q I h => ld_blt I hg hm hv ⟨.ty T, H, I, rfl, h⟩ hn hdb⟩
theorem je_isi {T : String} (hT : T ∈ tysR) (hg : Gl X "isinstance") (hm : X.mg "isinstance" = none) (hgT : Gl X x) (hmT : X.mg x = none) (hvT : bootBuiltins x = some (.type T)) (h : JB X W e m) (hn : x ≠ "__name__" := by decide) (hdb : (x == ("__debug__" : Str)) = false := by decide)
    (hs : starEach [e, .Name x q] X.env = (false, eval e X.env) :: starEach [.Name x q] X.env := by rfl) (hs2 : starEach [.Name x q] X.env = (false, eval (.Name x q) X.env) :: starEach [] X.env := by rfl) (h2 : (backTo pos (starEach [.Name x q] X.env)).any (·.1) = false := by rfl) :
    JE X W (.Call (.Name "isinstance" p) [e, .Name x q] [] pos) (mUn (fIsi T) m) := by
  refine PE.imp (pe_callB call_isi hg hm rfl (pa_cons h (pa_cons (pe_tyN hgT hmT hvT hn hdb) pa_nil hs2) hs) (by decide) (by decide) hs h2) fun σ H Q h => ?_
  obtain ⟨w, rfl, rfl, r, h⟩ := h
  refine run r h fun d s' G' v H' g r' p h' => ?_
  unfold fIsi at h'
  cases ht : tyD d with
  | none => rw [ht] at h'; exact h'.elim
  | some t =>
    rw [ht] at h'
    exact ⟨v, .ty T, .type t, .type T, _, rfl, .ty T, tyx_of r' p ht, kit_tb (tyD_in ht) hT, fin r' h' (.bl _)⟩
end

/-! ### data without dicts; != -/
def pds (f : D → Option PyData) : List D → Option (List PyData)
  | [] => some []
  | d :: ds => match f d, pds f ds with
    | some p, some ps => some (p :: ps)
    | _, _ => none
/-- d as data, at most n deep -/
def pd : Nat → D → Option PyData
  | _, .non => some .none
  | _, .bl b => some (.bool b)
  | _, .int i => some (.int i)
  | _, .str x => some (.str x)
  | n + 1, .tup ds => (pds (pd n) ds).map .tuple
  | n + 1, .lst ds => (pds (pd n) ds).map .list
  | _, _ => none
theorem pds_cons {f : D → Option PyData} {d : D} {ds : List D} {ps : List PyData} (h : pds f (d :: ds) = some ps) : ∃ p qs, f d = some p ∧ pds f ds = some qs ∧ ps = p :: qs := by
  unfold pds at h
  cases h1 : f d with
  | none => rw [h1] at h; cases h
  | some p =>
    cases h2 : pds f ds with
    | none => rw [h1, h2] at h; cases h
    | some qs => rw [h1, h2] at h; cases h; exact ⟨p, qs, rfl, rfl, rfl⟩
theorem pd_all {n : Nat} (ih : ∀ d p, pd n d = some p → p.plain = true ∧ p.depth ≤ n) : ∀ {ds : List D} {ps : List PyData}, pds (pd n) ds = some ps → PyData.plainAll ps = true ∧ PyData.depthAll ps ≤ n
  | [], _, h => by cases h; exact ⟨by simp [PyData.plainAll], by simp [PyData.depthAll]⟩
  | d :: ds, _, h => by
    obtain ⟨p, qs, h1, h2, rfl⟩ := pds_cons h
    obtain ⟨a, b⟩ := pd_all ih h2
    obtain ⟨c, e⟩ := ih d p h1
    refine ⟨by simp [PyData.plainAll, a, c], ?_⟩
    simp only [PyData.depthAll]
    omega
theorem pd_ok : ∀ (n : Nat) (d : D) (p : PyData), pd n d = some p → p.plain = true ∧ p.depth ≤ n := by
  intro n
  induction n with
  | zero => intro d p h; cases d <;> simp [pd] at h <;> subst h <;> simp [PyData.plain, PyData.depth]
  | succ n ih =>
    intro d p h
    cases d <;> simp [pd] at h <;> first | (subst h; simp [PyData.plain, PyData.depth]; done) | skip
    · obtain ⟨ps, h1, rfl⟩ := h
      obtain ⟨a, b⟩ := pd_all ih h1
      exact ⟨by simpa [PyData.plain] using a, by simp only [PyData.depth]; omega⟩
    · obtain ⟨ps, h1, rfl⟩ := h
      obtain ⟨a, b⟩ := pd_all ih h1
      exact ⟨by simpa [PyData.plain] using a, by simp only [PyData.depth]; omega⟩
theorem pds_dp {K : PySem.W.Frag} {G : Gh} {H : Hp} {f : D → Option PyData} (ih : ∀ v d p, f d = some p → Rep K G v d → Dp K H v p) : ∀ {ds : List D} {ps : List PyData} {vs : List V}, pds f ds = some ps → Reps K G vs ds → DpAll K H vs ps
  | [], _, _, h, r => by cases h; cases r; exact .nil
  | d :: ds, _, _, h, r => by
    obtain ⟨p, qs, h1, h2, rfl⟩ := pds_cons h
    cases r with
    | cons a b => exact .cons (ih _ _ _ h1 a) (pds_dp ih h2 b)
theorem pd_dp {K : PySem.W.Frag} {pn : List (Addr × Obj)} {w : Wd} (r : Rel K pn w) : ∀ (n : Nat) (v : V) (d : D) (p : PyData), pd n d = some p → Rep K w.G v d → Dp K w.H v p := by
  intro n
  induction n with
  | zero =>
    intro v d p h q
    cases q <;> simp [pd] at h <;> subst h
    · exact .non
    · exact .bl _
    · exact .int _
    · exact .str _
  | succ n ih =>
    intro v d p h q
    cases q with
    | non => simp [pd] at h; subst h; exact .non
    | bl b => simp [pd] at h; subst h; exact .bl _
    | int i => simp [pd] at h; subst h; exact .int _
    | str x => simp [pd] at h; subst h; exact .str _
    | tup hs rs =>
      simp [pd] at h
      obtain ⟨ps, h1, rfl⟩ := h
      exact .tup (tqT r.ex hs) (pds_dp ih h1 rs)
    | lst hs rs =>
      simp [pd] at h
      obtain ⟨ps, h1, rfl⟩ := h
      exact .lst (SqL.of (r.ex _ _ hs)) (pds_dp ih h1 rs)
    | kl hs rs => simp [pd] at h
    | nod hs => simp [pd] at h
    | loc hs => simp [pd] at h
    | ins hs rs => simp [pd] at h
theorem deqs_pd {n : Nat} (ih : ∀ d e p q, pd n d = some p → pd n e = some q → deq n d e = some (PyData.eqv p q)) : ∀ {ds es : List D} {ps qs : List PyData}, pds (pd n) ds = some ps → pds (pd n) es = some qs → deqs (deq n) ds es = some (PyData.eqvAll ps qs)
  | [], [], _, _, h1, h2 => by cases h1; cases h2; simp [deqs, PyData.eqvAll]
  | [], e :: es, _, _, h1, h2 => by obtain ⟨q, qs, _, _, rfl⟩ := pds_cons h2; cases h1; simp [deqs, PyData.eqvAll]
  | d :: ds, [], _, _, h1, h2 => by obtain ⟨q, qs, _, _, rfl⟩ := pds_cons h1; cases h2; simp [deqs, PyData.eqvAll]
  | d :: ds, e :: es, _, _, h1, h2 => by
    obtain ⟨p, ps, a1, a2, rfl⟩ := pds_cons h1
    obtain ⟨q, qs, b1, b2, rfl⟩ := pds_cons h2
    simp only [deqs, ih d e p q a1 b1, deqs_pd ih a2 b2, PyData.eqvAll]
theorem deq_pd : ∀ (n : Nat) (d e : D) (p q : PyData), pd n d = some p → pd n e = some q → deq n d e = some (PyData.eqv p q) := by
  intro n
  induction n with
  | zero =>
    intro d e p q h1 h2
    cases d <;> simp [pd] at h1 <;> subst h1 <;> cases e <;> simp [pd] at h2 <;> subst h2 <;> simp [deq, sc, PyData.eqv]
  | succ n ih =>
    intro d e p q h1 h2
    cases d <;> simp [pd] at h1 <;> first | (obtain ⟨ps, h1, rfl⟩ := h1) | subst h1
    all_goals (cases e <;> simp [pd] at h2 <;> first | (obtain ⟨qs, h2, rfl⟩ := h2) | subst h2)
    all_goals first | (simp [deq, sc, PyData.eqv]; done) | (simp only [deq, PyData.eqv]; exact deqs_pd ih h1 h2)
/-- x != y of data without dicts -/
def fNe (d e : D) : Option D := if (pd 50 d).isSome = true ∧ (pd 50 e).isSome = true then (deq 50 d e).map fun b => .bl (!b) else none
def rNeX (K : PySem.W.Frag) : R2 := fun x y H Q => ∃ p q, Dp K H x p ∧ Dp K H y q ∧ p.plain = true ∧ q.plain = true ∧ p.depth ≤ 50 ∧ Q (.bl (!PyData.eqv p q)) H
theorem op_neX {X : Cx} (hu : X.A.units + 64 < cLine) : OpR X (compareOp .NotEq) (rNeX X.K) := by
  intro pins s σ H x y v u Q I rx ry h
  obtain ⟨d, e, hd, he, sd, se, dd, q⟩ := h
  obtain ⟨as, r1⟩ := Dp.reads I d x v hd rx
  obtain ⟨bs, r2⟩ := Dp.reads I e y u he ry
  exact SeqAt.ne_plain r1 r2 sd se (by omega) ⟨.bl _, H, I, rfl, q⟩
theorem k_ne {K : PySem.W.Frag} : R2Ok K (rNeX K) fNe := by
  intro pn w x y d e z Q r p1 p2 hz k
  unfold fNe at hz
  split at hz
  · rename_i hh
    obtain ⟨p, hp⟩ := Option.isSome_iff_exists.mp hh.1
    obtain ⟨q, hq⟩ := Option.isSome_iff_exists.mp hh.2
    rw [deq_pd 50 d e p q hp hq] at hz
    cases hz
    obtain ⟨a1, a2⟩ := pd_ok 50 d p hp
    obtain ⟨b1, b2⟩ := pd_ok 50 e q hq
    exact ⟨p, q, pd_dp r 50 x d p hp p1, pd_dp r 50 y e q hq p2, a1, b1, a2, k _ _ _ (.refl _) r (.bl _)⟩
  · cases hz
/-! x in xs, x not in xs: plain data -/
def fInP (neg : Bool) (d c : D) : Option D := match itD c with
  | some ds => if (pd 50 d).isSome = true ∧ (pd 50 c).isSome = true then some (.bl (if neg then !(ds.any fun e => deq 50 e d == some true) else ds.any fun e => deq 50 e d == some true)) else none
  | none => none

/-! ### list(range(n)), tuple(range(n)) -/
section
variable {X : Cx} {W : WX} {e : Expr} {m : ME} {pos p p2 pos2 : Pos}
def rgD (d : D) : Option (List D) := match d with
  | .int n => if n ≤ 1000000 ∧ -1000000 ≤ n then some (intsD 0 n.toNat) else none
  | _ => none
theorem rg_reps {K : PySem.W.Frag} {G : Gh} {b : Int} : Reps K G (rgV 0 b) (intsD 0 b.toNat) := by
  unfold rgV intsD
  rw [Int.sub_zero]
  generalize List.range b.toNat = l
  induction l with
  | nil => exact .nil
  | cons a r ih => exact .cons (.int _) ih
theorem jf_listRg (hc : X.calm = true) (hg : Gl X "list") (hm : X.mg "list" = none) (hg2 : Gl X "range") (hm2 : X.mg "range" = none) (h : JE X W e m) (na : starEach [e] X.env = (false, eval e X.env) :: starEach [] X.env := by rfl)
    (nb : starEach [Expr.Call (.Name "range" p2) [e] [] pos2] X.env = (false, eval (Expr.Call (.Name "range" p2) [e] [] pos2) X.env) :: starEach [] X.env := by rfl) :
    JF X W (.Call (.Name "list" p) [.Call (.Name "range" p2) [e] [] pos2] [] pos) (mUnF rgD m) := by
  refine PE.imp (pe_listRg hc hg hm (prg_1 hg2 hm2 h na) nb) fun σ H Q h => ?_
  obtain ⟨w, rfl, rfl, r, h⟩ := h
  refine run r h fun d s' G' v H' g r' p h' => ?_
  unfold rgD at h'
  split at h'
  · rename_i heq
    split at heq
    · rename_i n
      split at heq
      · rename_i hb
        cases heq
        cases p
        refine ⟨n, rfl, ⟨by omega, by omega, by omega, by omega, by omega⟩, fun q hq => ?_⟩
        exact h' _ _ _ (.refl _) (r'.alloc hq) (AF.new r' hq rg_reps)
      · cases heq
    · cases heq
  · exact h'.elim
theorem je_tupRg (hc : X.calm = true) (hg : Gl X "tuple") (hm : X.mg "tuple" = none) (hg2 : Gl X "range") (hm2 : X.mg "range" = none) (h : JE X W e m) (na : starEach [e] X.env = (false, eval e X.env) :: starEach [] X.env := by rfl)
    (nb : starEach [Expr.Call (.Name "range" p2) [e] [] pos2] X.env = (false, eval (Expr.Call (.Name "range" p2) [e] [] pos2) X.env) :: starEach [] X.env := by rfl) :
    JE X W (.Call (.Name "tuple" p) [.Call (.Name "range" p2) [e] [] pos2] [] pos) (mUn (fun d => (rgD d).map .tup) m) := by
  refine PE.imp (pe_tupRg hc hg hm (prg_1 hg2 hm2 h na) nb) fun σ H Q h => ?_
  obtain ⟨w, rfl, rfl, r, h⟩ := h
  refine run r h fun d s' G' v H' g r' p h' => ?_
  cases hz : rgD d with
  | none => simp only [hz] at h'; exact h'.elim
  | some ds =>
    simp only [hz] at h'
    unfold rgD at hz
    split at hz
    · rename_i n
      split at hz
      · rename_i hb
        cases hz
        cases p
        refine ⟨n, rfl, ⟨by omega, by omega, by omega, by omega, by omega⟩, fun q hq => ?_⟩
        have hn := r'.noF hq
        exact h' _ _ _ (gle_upd hn) (r'.new hq) (.tup upd_same rg_reps)
      · cases hz
    · cases hz
end

/-! ### a, b = x, y; targets that take a list -/
/-- what is stored in a slot: a value, or a new list -/
def mPar (i j : Nat) (m : MA) : MS := bnd m fun ds s => match ds with
  | [d, e] => .ok .nx ((s.put i (.imm d)).put j (.imm e))
  | _ => .stuck
section
variable {X : Cx} {W : WX} {a b : Expr} {m : MA} {pos : Pos}
theorem js_par {i j : Nat} {x y : Str} {px py pt : Pos} {kt k2 pt2} (hc : X.calm = true) (hN : X.N.Nodup) (hi : X.N[i]? = some x) (hj : X.N[j]? = some y) (hij : i ≠ j)
    (hx : X.env.scope.names.lookup x = some .local) (hy : X.env.scope.names.lookup y = some .local) (ha : JA X W [a, b] m)
    (hw : swappedStores [.Tuple [.Name x px, .Name y py] kt pt] (.Tuple [a, b] k2 pt2) X.env = pure (some [x, y]))
    (hs : swapsWithSole [.Tuple [.Name x px, .Name y py] kt pt] (.Tuple [a, b] k2 pt2) pos.line X.env = pure false := by rfl) :
    JS X W (.Assign [.Tuple [.Name x px, .Name y py] kt pt] (.Tuple [a, b] k2 pt2) pos) (mPar i j m) := by
  refine PS.imp (ps_par hc hN hi hj hij hx hy ha.pa hw hs) fun D σ H h => ?_
  obtain ⟨w, rfl, rfl, r, h⟩ := h
  refine runS r h fun ds s' G' vs H' g r' p h' => ?_
  split at h'
  · cases p with
    | cons p1 p2 =>
      cases p2 with
      | cons p2 p3 =>
        cases p3
        exact ⟨_, _, rfl, h' G' _ H' (.refl _) (Rel.set (w := { w with G := G', σ := w.σ.set i (some _), H := H', s := s'.put i (.imm _) }) (r'.set p1) p2)⟩
  · exact h'.elim
/-- a, b = x, [..]: the second a new list that slot j then owns -/
def mParF (i j : Nat) (m : ME) (m2 : MA) : MS := bnd m fun d => bnd m2 fun ds s => .ok .nx ((s.put i (.imm d)).put j (.own ds))
/-- a, b = [..], [..]: both new lists -/
def mParFF (i j : Nat) (m m2 : MA) : MS := bnd m fun ds s => match m2 s with
  | .ok es s' => .ok .nx ((s'.put i (.own ds)).put j (.own es))
  | _ => .stuck
/-- names from a list or a tuple -/
def gTL (n : Nat) (gs : MGs) : MG
  | .tup ds => if ds.length = n then gs ds else none
  | .lst ds => if ds.length = n then gs ds else none
  | _ => none
theorem PG.or {e : Expr} {t t' : TG} (h : PG X e t) (h' : PG X e t') : PG X e (fun v σ H Q => t v σ H Q ∨ t' v σ H Q) := ⟨fun pins s σ H v u Q I r q => q.elim (h.run pins s σ H v u Q I r) (h'.run pins s σ H v u Q I r)⟩
theorem jg_tl {es : List Expr} {k : Nat} {gs : MGs} {ix : List Nat} {n : Nat} (hc : X.calm = true) (h : JGs X es gs ix) (hn : (assignEach es X.env).length = n := by rfl) (hst : (assignEach es X.env).findIdx? (·.1) = none := by rfl) : JG X (.Tuple es k pos) (gTL n gs) ix := by
  refine ⟨PG.imp (PG.or (pg_tup hc h.pg hn hst) (pg_unl hc h.pg hn hst)) fun v σ H Q h => ?_, fun d l e p hp => ?_⟩
  · obtain ⟨pn, w, d, l, rfl, r, p, e, q⟩ := h
    unfold gTL at e
    split at e
    · rename_i ds
      cases p with
      | tup hs rs =>
        split at e
        · rename_i hl
          exact .inl ⟨_, _, rfl, tqT r.ex hs, rs.length.trans hl, pn, w, ds, l, rfl, r, rs, e, q⟩
        · cases e
    · rename_i ds
      cases p with
      | lst hs rs =>
        split at e
        · rename_i hl
          exact .inr ⟨_, _, rfl, SqL.of (r.ex _ _ hs), rs.length.trans hl, pn, w, ds, l, rfl, r, rs, e, q⟩
        · cases e
    · cases e
  · unfold gTL at e
    split at e
    · split at e
      · exact h.ix _ _ e p hp
      · cases e
    · split at e
      · exact h.ix _ _ e p hp
      · cases e
    · cases e
end
end DL

namespace DL
open PySem PySem.Spec L2
section
variable {K : PySem.W.Frag} {pn : List (Addr × Obj)} {w : Wd}
/-- a thing that nobody holds becomes a cell -/
theorem Rel.mkCell (r : Rel K pn w) {p : Addr} {o : Ob} {u : HO} {l : List (Addr × HO)} (hF : w.G.F p = none) (na : p ∉ w.G.ad) (h0 : w.H0 p = none) (hs : ∀ (i : Nat) es, w.s.sl[i]? = some (.own es) → w.σ[i]? ≠ some (some (.ref p))) (hl : ∀ q ∈ l, q ∈ w.pr ∧ q.1 ≠ p)
    (ho : ∀ G' H', w.G.le G' → H' p = some u → ObRel K G' H' p o) :
    w.G.le { w.G with ad := w.G.ad ++ [p] } ∧ Rel K pn { w with G := { w.G with ad := w.G.ad ++ [p] }, H := upd w.H p u, s := { w.s with st := w.s.st ++ [o] }, pr := l } ∧ Rep K { w.G with ad := w.G.ad ++ [p] } (.ref p) (.loc w.s.st.length) := by
  have g : w.G.le { w.G with ad := w.G.ad ++ [p] } := ⟨fun _ _ h => h, fun n a h => (List.getElem?_append_left (List.getElem?_eq_some_iff.mp h).1).trans h⟩
  have up : ∀ a x, a ≠ p → w.H a = some x → upd w.H p u a = some x := fun a x n h => (upd_ne n).trans h
  refine ⟨g, ⟨fun a x h => up a x (fun e => by rw [e] at h; exact absurd (hF.symm.trans h) (by simp)) (r.ex a x h), ⟨r.le.g.trans g, fun a h => ?_, r.le.fz, fun a x h n => up a x (fun e => by rw [e] at h; exact absurd (h0.symm.trans h) (by simp)) (r.le.kp a x h n), fun a x h => ?_⟩, ⟨?_, fun n a x h1 h2 => ?_, fun a h => ?_, ?_⟩, ⟨r.sl.len, fun i d h => ?_, fun i ds h => ?_, r.sl.dis, fun i x h => ?_⟩, fun q hq => ?_⟩, ?_⟩
  · rcases List.mem_append.mp h with z | z
    · exact r.le.nw a z
    · rw [List.mem_singleton.mp z]; exact .inr h0
  · obtain ⟨x', h'⟩ := r.le.dm a x h
    by_cases e : a = p
    · exact ⟨u, by rw [e]; exact upd_same⟩
    · exact ⟨x', up a x' e h'⟩
  · show (w.G.ad ++ [p]).length = (w.s.st ++ [o]).length
    rw [List.length_append, List.length_append, r.st.len]; rfl
  · have h1 : (w.G.ad ++ [p])[n]? = some a := h1
    have h2 : (w.s.st ++ [o])[n]? = some x := h2
    by_cases hn : n < w.G.ad.length
    · rw [List.getElem?_append_left hn] at h1
      rw [List.getElem?_append_left (by rw [← r.st.len]; exact hn)] at h2
      have ne : a ≠ p := fun e => na (e ▸ List.mem_of_getElem? h1)
      exact (r.st.at_ n a x h1 h2).mono g (fun y => up a y ne)
    · rw [List.getElem?_append_right (by omega)] at h1
      rw [List.getElem?_append_right (by rw [← r.st.len]; omega), ← r.st.len] at h2
      have e : n - w.G.ad.length = 0 := by
        have := (List.getElem?_eq_some_iff.mp h1).1
        simp at this; omega
      rw [e] at h1 h2
      simp at h1 h2
      subst h1 h2
      exact ho _ _ g upd_same
  · rcases List.mem_append.mp h with z | z
    · exact r.st.nof a z
    · rw [List.mem_singleton.mp z]; exact hF
  · show (w.G.ad ++ [p]).Nodup
    rw [List.nodup_append]
    exact ⟨r.st.nd, by simp, fun a ha b hb e => by rw [List.mem_singleton.mp hb] at e; exact na (e ▸ ha)⟩
  · obtain ⟨v, h1, h2⟩ := r.sl.imm i d h
    exact ⟨v, h1, h2.mono g⟩
  · obtain ⟨a, vs, h1, h2, h3, h4, h5, h6⟩ := r.sl.own i ds h
    have ne : a ≠ p := fun e => hs i ds h (e ▸ h1)
    refine ⟨a, vs, h1, up a _ ne h2, h3.mono g, h4, fun m => ?_, h6⟩
    rcases List.mem_append.mp m with z | z
    · exact h5 z
    · exact ne (List.mem_singleton.mp z)
  · obtain ⟨a, oe, tl, cls, d, h1, h2, h3, h4⟩ := r.sl.xn i x h
    exact ⟨a, oe, tl, cls, d, h1, h2, h3, h4.mono g⟩
  · obtain ⟨hq1, hq2⟩ := hl q hq
    obtain ⟨p1, p2, p3, p4⟩ := r.pr q hq1
    refine ⟨up _ _ hq2 p1, p2, ⟨fun m => ?_, p3.2⟩, p4⟩
    rcases List.mem_append.mp m with z | z
    · exact p3.1 z
    · exact hq2 (List.mem_singleton.mp z)
  · refine .loc ?_
    show (w.G.ad ++ [p])[w.s.st.length]? = some p
    rw [← r.st.len]
    simp
/-- a new list is held while other things are done -/
theorem Rel.hold (r : Rel K pn w) {b : Addr} {vs : List V} {ds : List D} (h1 : w.H b = some (.lst vs)) (h2 : w.G.F b = none) (h3 : b ∉ w.G.ad) (h4 : w.H0 b = none) (h5 : ∀ (i : Nat) es, w.s.sl[i]? = some (.own es) → w.σ[i]? ≠ some (some (.ref b))) : Rel K pn { w with pr := (b, .lst vs) :: w.pr } := by
  refine ⟨r.ex, r.le, r.st, r.sl, fun q hq => ?_⟩
  rcases List.mem_cons.mp hq with e | hq
  · rw [e]; exact ⟨h1, h2, ⟨h3, rfl⟩, h4, h5⟩
  · exact r.pr q hq
end

/-! ### a, b = new list, new list -/
section
variable {X : Cx} {W : WX} {a b : Expr} {m m2 : MA} {pos : Pos}
theorem js_parFF {i j : Nat} {x y : Str} {px py pt : Pos} {kt k2 pt2} (hc : X.calm = true) (hN : X.N.Nodup) (hi : X.N[i]? = some x) (hj : X.N[j]? = some y) (hij : i ≠ j)
    (hx : X.env.scope.names.lookup x = some .local) (hy : X.env.scope.names.lookup y = some .local) (h1 : JF X W a m) (h2 : JF X W b m2)
    (hw : swappedStores [.Tuple [.Name x px, .Name y py] kt pt] (.Tuple [a, b] k2 pt2) X.env = pure (some [x, y]))
    (hs : swapsWithSole [.Tuple [.Name x px, .Name y py] kt pt] (.Tuple [a, b] k2 pt2) pos.line X.env = pure false := by rfl)
    (s1 : starEach [a, b] X.env = (false, eval a X.env) :: starEach [b] X.env := by rfl) (s2 : starEach [b] X.env = (false, eval b X.env) :: starEach [] X.env := by rfl) :
    JS X W (.Assign [.Tuple [.Name x px, .Name y py] kt pt] (.Tuple [a, b] k2 pt2) pos) (mParFF i j m m2) := by
  refine PS.imp (ps_par hc hN hi hj hij hx hy (pa_cons h1 (pa_cons h2 pa_nil s2) s1) hw hs) fun D σ H h => ?_
  obtain ⟨w, rfl, rfl, r, h⟩ := h
  refine runS r h fun ds s' G' v H' g r' p h' => ?_
  obtain ⟨c, vs, rfl, q1, q2, q3, q4, q5, q6, q7⟩ := p
  refine ⟨{ w with G := G', H := H', s := s', pr := (c, .lst vs) :: w.pr }, rfl, rfl, Rel.hold (w := { w with G := G', H := H', s := s' }) (ds := ds) r' q1 q3 q4 q5 q6, ?_⟩
  cases hm : m2 s' with
  | exc y s2 => rw [hm] at h'; exact h'.elim
  | stuck => rw [hm] at h'; exact h'.elim
  | ok es s2 =>
    rw [hm] at h'
    intro G2 v2 H2 g2 r2 a2
    obtain ⟨r3, a3⟩ := Rel.prPop (w := { w with G := G2, H := H2, s := s2, pr := (c, .lst vs) :: w.pr }) (ds := ds) r2 rfl q7 (q2.mono g2)
    obtain ⟨c2, us, rfl, e1, e2, e3, e4, e5, e6, e7⟩ := a2
    have nec : c ≠ c2 := e7 (c, .lst vs) List.mem_cons_self
    refine ⟨_, _, rfl, ?_⟩
    have r4 := Rel.setOwn (i := i) r3 a3
    have hl : s2.sl.length = w.σ.length := r3.sl.len.symm
    refine h' G2 _ H2 g2 (Rel.setOwn (i := j) r4 ⟨c2, us, rfl, e1, e2, e3, e4, e5, fun k fs z1 z2 => ?_, fun q hq => e7 q (List.mem_cons_of_mem _ hq)⟩)
    rcases set_get z1 with ⟨k1, k2⟩ | ⟨k1, k2⟩
    · subst k1
      have z2 : (w.σ.set k (some (.ref c)))[k]? = some (some (.ref c2)) := z2
      rw [List.getElem?_set_self (by rw [← hl]; exact set_lt z1)] at z2
      cases z2
      exact nec rfl
    · exact e6 k fs k2 ((List.getElem?_set_ne (Ne.symm k1)).symm.trans z2)
end

/-! ### dicts that are cells -/
def valD {κ : Type} [DecidableEq κ] (kvs : List (κ × D)) (k : κ) : Option D := (kvs.find? fun kv => decide (kv.1 = k)).map (·.2)
def putD {κ : Type} [DecidableEq κ] (kvs : List (κ × D)) (k : κ) (d : D) : List (κ × D) := if (kvs.any fun kv => decide (kv.1 = k)) then kvs.map fun kv => if kv.1 = k then (kv.1, d) else kv else kvs ++ [(k, d)]
theorem kv_val {κ : Type} [DecidableEq κ] {K : PySem.W.Frag} {G : Gh} {k : κ} {d : D} : ∀ {vs : List (κ × V)} {kvs : List (κ × D)}, KvRel K G vs kvs → valD kvs k = some d → ∃ v, valV vs k = some v ∧ Rep K G v d
  | _, _, .nil, h => by cases h
  | _, _, .cons (a := p) (b := q) e r, h => by
    unfold valD at h
    unfold valV
    rw [List.find?_cons] at h ⊢
    rw [e.1]
    by_cases c : q.1 = k
    · simp only [c, decide_true] at h ⊢
      cases h
      exact ⟨_, rfl, e.2⟩
    · simp only [c, decide_false] at h ⊢
      exact kv_val r h
end DL

namespace DL
open PySem PySem.Spec L2
theorem kv_any {κ : Type} [DecidableEq κ] {K : PySem.W.Frag} {G : Gh} {k : κ} : ∀ {vs : List (κ × V)} {kvs : List (κ × D)}, KvRel K G vs kvs → (vs.any fun kv => decide (kv.1 = k)) = kvs.any fun kv => decide (kv.1 = k)
  | _, _, .nil => rfl
  | _, _, .cons (a := p) (b := q) e r => by
    rw [List.any_cons, List.any_cons, e.1, kv_any r]
theorem kv_map {κ : Type} [DecidableEq κ] {K : PySem.W.Frag} {G : Gh} {k : κ} {v : V} {d : D} (p : Rep K G v d) : ∀ {vs : List (κ × V)} {kvs : List (κ × D)}, KvRel K G vs kvs → KvRel K G (vs.map fun kv => if kv.1 = k then (kv.1, v) else kv) (kvs.map fun kv => if kv.1 = k then (kv.1, d) else kv)
  | _, _, .nil => .nil
  | _, _, .cons (a := p1) (b := q1) e r => by
    refine .cons ?_ (kv_map p r)
    by_cases c : q1.1 = k
    · have c' : p1.1 = k := e.1.trans c
      simp only [if_pos c, if_pos c']
      exact ⟨e.1, p⟩
    · have c' : ¬ p1.1 = k := fun z => c (e.1.symm.trans z)
      simp only [if_neg c, if_neg c']
      exact e
theorem kv_put {κ : Type} [DecidableEq κ] {K : PySem.W.Frag} {G : Gh} {k : κ} {v : V} {d : D} {vs : List (κ × V)} {kvs : List (κ × D)} (r : KvRel K G vs kvs) (p : Rep K G v d) : KvRel K G (putK vs k v) (putD kvs k d) := by
  unfold putK putD
  rw [kv_any r]
  split
  · exact kv_map p r
  · exact paired_append r (.cons ⟨rfl, p⟩ .nil)
theorem kv_len {κ : Type} {K : PySem.W.Frag} {G : Gh} : ∀ {vs : List (κ × V)} {kvs : List (κ × D)}, KvRel K G vs kvs → vs.length = kvs.length
  | _, _, .nil => rfl
  | _, _, .cons e r => by rw [List.length_cons, List.length_cons, kv_len r]

/-- d[k], d a cell -/
def mGet (m : ME) (k : Key) : ME := bnd m fun d s => match d with
  | .loc n => (match s.st[n]? with
    | some (.dct kvs) => (match valD kvs k with
      | some z => .ok z s
      | none => .stuck)
    | _ => .stuck)
  | _ => .stuck
/-- d[k] = v -/
def mPut (m : ME) (k : Key) (mv : ME) : MS := bnd mv fun z => bnd m fun d s => match d with
  | .loc n => (match s.st[n]? with
    | some (.dct kvs) => if kvs.length < 1000 then .ok .nx { s with st := s.st.set n (.dct (putD kvs k z)) } else .stuck
    | _ => .stuck)
  | _ => .stuck
section
variable {X : Cx} {W : WX} {o i v : Expr} {m mv : ME} {pos pos' : Pos} {k : Key}
theorem je_get (hu : X.A.units + 1 < cLine) (ho : JE X W o m) (hi : PE X i (tC (kV k))) (hs : NoSl i := by exact fun _ _ => rfl) : JE X W (.Subscript o i pos) (mGet m k) := by
  refine PE.imp (pe_dget hu ho hi hs) fun σ H Q h => ?_
  obtain ⟨w, rfl, rfl, r, h⟩ := h
  refine run r h fun d s' G' y H' g r' p h' => ?_
  split at h'
  · rename_i n
    split at h'
    · rename_i kvs hn
      split at h'
      · rename_i z hz
        cases p with
        | loc ha =>
          obtain ⟨vs, e1, e2⟩ := r'.st.at_ n _ _ ha hn
          obtain ⟨u, f1, f2⟩ := kv_val e2 hz
          refine ⟨_, u, rfl, ?_, h' _ _ _ (.refl _) r' f2⟩
          have := DGet.k (k := k) e1
          rw [f1] at this
          exact this
      · exact h'.elim
    · exact h'.elim
  · exact h'.elim
theorem js_put (hu : X.A.units + 1 < cLine) (ho : JE X W o m) (hi : PE X i (tC (kV k))) (hv : JE X W v mv) (hs : swapsWith v (some (.Subscript o i pos')) pos.line X.env = pure false := by rfl) : JS X W (.Assign [.Subscript o i pos'] v pos) (mPut m k mv) := by
  refine PS.imp (ps_dput hu ho hi hv hs) fun D σ H h => ?_
  obtain ⟨w, rfl, rfl, r, h⟩ := h
  refine runS r h fun z s1 G1 y1 H1 g1 r1 p1 h1 => ?_
  refine runS r1 h1 fun d s' G' y H' g r' p h' => ?_
  split at h'
  · rename_i n
    split at h'
    · rename_i kvs hn
      split at h'
      · rename_i hl
        cases p with
        | loc ha =>
          obtain ⟨vs, e1, e2⟩ := r'.st.at_ n _ _ ha hn
          refine ⟨_, _, rfl, DPut.k e1 (by rw [kv_len e2, sizeLine_eq]; omega), ?_⟩
          exact h' _ _ _ (.refl _) (r'.cell ha fun H2 hH => ⟨_, hH, kv_put e2 (p1.mono g)⟩)
      · exact h'.elim
    · exact h'.elim
  · exact h'.elim
/-- {} as a value -/
theorem je_nod : JE X W (.Dict [] [] pos) (mC .nod) := by
  refine PE.imp pe_dnewK fun σ H Q h => ?_
  obtain ⟨w, rfl, rfl, r, h⟩ := h
  intro p hp
  have hn := r.noF hp
  exact h _ _ _ (gle_upd hn) (r.new hp) (.nod upd_same)
end

/-! a display, to be a cell -/
def mVals : List (Key × ME) → MA
  | [] => ret []
  | (_, m) :: r => bnd m fun d => bnd (mVals r) fun ds => ret (d :: ds)
def mDict (ms : List (Key × ME)) : ME := bnd (mVals ms) fun ds s => .ok (.loc s.st.length) { s with st := s.st ++ [.dct ((ms.map (·.1)).zip ds)] }
def AK (K : PySem.W.Frag) (ks : List Key) : Wd → List (V × V) → List D → Prop := fun w ps ds => ∃ vs : List V, ps = (ks.zip vs).map (fun kv => (kV kv.1, kv.2)) ∧ ks.length = vs.length ∧ Reps K w.G vs ds
theorem vals_run {K : PySem.W.Frag} {pn : List (Addr × Obj)} {W : WX} : ∀ (ms : List (Key × ME)) (w : Wd) (Q : List (V × V) → Hp → Prop), Rel K pn w → okG K pn W (AK K (ms.map (·.1))) w Q (mVals ms w.s) → tPairs (ms.map fun p => (tC (kV p.1), tG K pn W (AR K) p.2)) w.σ w.H Q
  | [], w, Q, r, h => h w.G [] w.H (.refl _) r ⟨[], rfl, rfl, .nil⟩
  | (k, m) :: rest, w, Q, r, h => by
    show tG K pn W (AR K) m w.σ w.H fun y H2 => tPairs (rest.map fun p => (tC (kV p.1), tG K pn W (AR K) p.2)) w.σ H2 fun ps H3 => Q ((kV k, y) :: ps) H3
    refine run r h fun d s' G' v H' g r' p h' => ?_
    refine vals_run rest { w with G := G', H := H', s := s' } _ r' ?_
    have h' : okG K pn W (AK K (((k, m) :: rest).map (·.1))) { w with G := G', H := H', s := s' } Q (bnd (mVals rest) (fun ds => ret (d :: ds)) s') := h'
    unfold bnd at h'
    show okG K pn W _ _ _ (mVals rest s')
    cases hm : mVals rest s' with
    | ok ds s2 =>
      rw [hm] at h'
      intro G2 ps H2 g2 r2 ha
      obtain ⟨vs, e1, e2, e3⟩ := ha
      refine h' G2 _ H2 g2 r2 ⟨v :: vs, ?_, ?_, .cons (p.mono g2) e3⟩
      · rw [e1]; rfl
      · simpa using e2
    | exc y s2 => rw [hm] at h'; exact h'
    | stuck => rw [hm] at h'; exact h'
theorem merge_nodup : ∀ (kvs acc : List (Key × V)), ((acc ++ kvs).map (·.1)).Nodup → mergeK acc kvs = acc ++ kvs
  | [], acc, _ => by rw [List.append_nil]; rfl
  | p :: r, acc, h => by
    have e : putK acc p.1 p.2 = acc ++ [(p.1, p.2)] := by
      unfold putK
      rw [if_neg]
      intro z
      rw [List.any_eq_true] at z
      obtain ⟨q, hq, hz⟩ := z
      have hz := of_decide_eq_true hz
      rw [List.map_append, List.nodup_append] at h
      exact h.2.2 q.1 (List.mem_map_of_mem hq) p.1 (by simp) hz
    show mergeK (putK acc p.1 p.2) r = _
    rw [e, merge_nodup r (acc ++ [(p.1, p.2)]) (by simpa using h)]
    simp
theorem kv_zip {K : PySem.W.Frag} {G : Gh} : ∀ (ks : List Key) {vs : List V} {ds : List D}, Reps K G vs ds → KvRel K G (ks.zip vs) (ks.zip ds)
  | [], _, _, _ => .nil
  | k :: ks, _, _, .nil => .nil
  | k :: ks, _, _, .cons p r => .cons ⟨rfl, p⟩ (kv_zip ks r)
theorem mVals_len {ms : List (Key × ME)} : ∀ {s s' : S} {ds : List D}, mVals ms s = .ok ds s' → ds.length = ms.length := by
  induction ms with
  | nil => intro s s' ds h; cases h; rfl
  | cons p r ih =>
    intro s s' ds h
    obtain ⟨a, s1, h1, h2⟩ := bnd_ok h
    obtain ⟨b, s2, h3, h4⟩ := bnd_ok h2
    cases h4
    rw [List.length_cons, List.length_cons, ih h3]
section
variable {X : Cx} {W : WX} {pos : Pos} {keys : List (Option Expr)} {values : List Expr} {ms : List (Key × ME)}
def JP (X : Cx) (W : WX) (pos : Pos) (keys : List (Option Expr)) (values : List Expr) (ms : List (Key × ME)) : Prop := PPs X pos keys values (ms.map fun p => (tC (kV p.1), tG X.K X.pn W (AR X.K) p.2))
theorem jp_nil : JP X W pos [] [] [] := pps_nil
theorem jp_cons {k v : Expr} {ke : Key} {m : ME} (hk : PE X k (tC (kV ke))) (hv : JE X W v m) (hr : JP X W pos keys values ms) : JP X W pos (some k :: keys) (v :: values) ((ke, m) :: ms) := pps_cons hk hv hr
theorem je_dict (h : JP X W pos keys values ms) (hn : (ms.map (·.1)).Nodup) (hall : keys.all (·.isSome) = true := by rfl) (hl : keys.length = values.length := by rfl) (h0 : keys ≠ [] := by decide) (h15 : keys.length ≤ 15 := by decide) (hm : ms.length ≤ 15 := by decide) : JE X W (.Dict keys values pos) (mDict ms) := by
  refine PE.imp (pe_disp h hall hl h0 h15) fun σ H Q h => ?_
  obtain ⟨w, rfl, rfl, r, h⟩ := h
  intro p hp
  have r1 := r.prPush (o := .dK []) hp
  refine vals_run ms { w with H := upd w.H p (.dK []), pr := (p, .dK []) :: w.pr } _ r1 ?_
  have h : okG X.K X.pn W (AR X.K) w Q (bnd (mVals ms) (fun ds s => .ok (.loc s.st.length) { s with st := s.st ++ [.dct ((ms.map (·.1)).zip ds)] }) w.s) := h
  unfold bnd at h
  show okG X.K X.pn W _ _ _ (mVals ms w.s)
  have np := r.noP hp
  cases hm2 : mVals ms w.s with
  | stuck => rw [hm2] at h; exact h
  | exc y s2 =>
    rw [hm2] at h
    intro G' c d H' g r' hx
    refine h G' c d H' g ?_ hx
    exact ⟨r'.ex, r'.le, r'.st, r'.sl, fun q hq => r'.pr q (List.mem_cons_of_mem _ hq)⟩
  | ok ds s2 =>
    rw [hm2] at h
    intro G' ps H' g r' ha
    obtain ⟨vs, e1, e2, e3⟩ := ha
    obtain ⟨p1, p2, p3, p4, p5⟩ := r'.pr (p, .dK []) List.mem_cons_self
    refine ⟨p1, (ms.map (·.1)).zip vs, e1, ?_, ?_⟩
    · rw [List.length_zip, ← e2, Nat.min_self, List.length_map]; exact hm
    · have em : mergeK [] ((ms.map (·.1)).zip vs) = (ms.map (·.1)).zip vs := by
        rw [merge_nodup]
        · rfl
        · rw [List.nil_append, List.map_fst_zip (by omega)]; exact hn
      rw [em]
      obtain ⟨g2, r2, q2⟩ := Rel.mkCell (w := { w with G := G', H := H', s := s2, pr := (p, .dK []) :: w.pr }) (o := .dct ((ms.map (·.1)).zip ds)) (u := .dK ((ms.map (·.1)).zip vs)) (l := w.pr) r' p2 p3.1 p4 p5 (fun q hq => ⟨List.mem_cons_of_mem _ hq, np q hq⟩) (fun G2 H2 g2 hH => ⟨_, hH, kv_zip _ (e3.mono g2)⟩)
      exact h _ _ _ (g.trans g2) r2 q2
end
end DL

/-! enumerate over a tuple -/
namespace DL
open PySem PySem.Spec PyProof.Rows L2
abbrev enO (p : Addr) : Obj := { cls := .type "enumerate", data := .fields #[.none, .bool false, .ref p, rawInt 0, .none, .none] }
abbrev tiO (t : Addr) : Obj := { cls := .type "tuple_iterator", data := .fields #[.ref t, .int 0 0] }
theorem en_new (t : Addr) (items : Array Value) :
    Meets (Builtin.«enumerate.__new__» ⟨[.type "enumerate", .ref t], []⟩) (fun _ R s => s.heap.IsTuple t items ∧ R (.ok (.ret (.ref (s.heap.push (tiO t)).objs.size))) { s with heap := (s.heap.push (tiO t)).push (enO s.heap.objs.size) }) :=
  .of_wp fun prog w A R s h => by
    obtain ⟨hp, gl, dr, tk, os⟩ := s
    obtain ⟨ht, hR⟩ := h
    have hsub := sub_enumerate
    have go : ∀ {A2 : Around} {E2 : Value → Shared → Prop} {Q2 : Value → Shared → Prop}, Q2 (.ref hp.objs.size) ⟨hp.push (tiO t), gl, dr, tk, os⟩ → wpAny (model prog w) A2 (pyIter (.ref t)) Q2 E2 ⟨hp, gl, dr, tk, os⟩ := fun q => (begins_tuple t items).iter prog w _ _ ⟨hp, gl, dr, tk, os⟩ _ ht q
    obtain ⟨ot, h1, h2, n1, h3⟩ := id ht
    obtain ⟨oc, od, odt, osl⟩ := ot
    simp only at h2 h3
    subst h2 h3
    wp_walk using AutoSeq1.wpAny_loadPart' h1
    refine wpAny_stack_any fun stk => wpAny_pure ?_
    split
    · rename_i cc _ _ _ _ _
      cases (cc == Value.type "enumerate")
      all_goals
        wp_walk using AutoSeq1.wpAny_loadPart' h1, go
        exact ⟨_, rfl, hR⟩
    · wp_walk using AutoSeq1.wpAny_loadPart' h1, go
      exact ⟨_, rfl, hR⟩
section
variable {prog : Program} {w : World} {A : Around} {E : Value → Shared → Prop} {s : Shared}
theorem en_call {t : Addr} {items : Array Value} {Q : Value → Shared → Prop} (ht : s.heap.IsTuple t items)
    (h : ∀ h', IsEnum h' (s.heap.objs.size + 1) s.heap.objs.size 0 .none → h'.IsTupleIter s.heap.objs.size t 0 → (∀ b o, s.heap.get? b = some o → h'.get? b = some o) → Q (.ref (s.heap.objs.size + 1)) { s with heap := h' }) :
    wpAny (model prog w) A (call (.type "enumerate") [.ref t]) Q E s := by
  refine callType_new F.called_enumerate (by decide) (F.typeCall_enumerate_1 _) (F.newCall_enumerate_1 _) (fun ob => F.args_object_init_2 ob _) F.entry_enumerate_new (en_new t items) ⟨ht, ?_⟩
  have hz : (s.heap.push (tiO t)).objs.size = s.heap.objs.size + 1 := Heap.size_push ..
  show _ ∧ _
  rw [hz]
  have he : IsEnum ((s.heap.push (tiO t)).push (enO s.heap.objs.size)) (s.heap.objs.size + 1) s.heap.objs.size 0 .none := by
    have q := Heap.get?_push_size (s.heap.push (tiO t)) (o := enO s.heap.objs.size) rfl
    rw [hz] at q; exact q
  exact ⟨⟨_, he, rfl⟩, h _ he ⟨_, Heap.get?_push_of_some _ (Heap.get?_push_size _ rfl), rfl, rfl⟩ fun b o x => Heap.get?_push_of_some _ (Heap.get?_push_of_some _ x)⟩
theorem en_end {e it t : Addr} {i : Nat} {items : Array Value} {c : Int} {old : Value} {Q : Option Value → Shared → Prop} (hh : A.handled = none) (he : IsEnum s.heap e it c old) (hit : s.heap.IsTupleIter it t i) (ht : s.heap.IsTuple t items) (hx : items[i]? = none)
    (hQ : ∀ h', Heap.ExtBut it s.heap h' → Q none { s with heap := h' }) : wpAny (model prog w) A (pyNext (.ref e)) Q E s := by
  have hT : s.TypeIs (.ref e) "enumerate" := ⟨_, he, rfl⟩
  unfold pyNext
  refine wpAny_bind (wpAny_attempt (wpAny_callSpecial?_slot (name := Str.ofString "__next__") hT F.slot_enumerate_next (wpAny_call_entry F.slot_enumerate_next hT F.entry_enumerate_next ?_ (F.args_enumerate_next_1 _))))
  show wpAny _ _ (field (.ref e) 2 >>= _) _ _ _
  refine wpAny_bind (wpAny_field he rfl (x := .ref it) rfl (wpAny_bind (wpAny_nextOf_tuple_end hh hit ht hx fun h2 x he2 hx2 => ?_)))
  obtain ⟨o, ho, hc⟩ := hx2
  exact wpAny_bind (wpAny_isInstance (T := "StopIteration") (b := true) ⟨o, ho, hc⟩ isSubtype_stop (wpAny_pure (hQ _ he2)))
end
/-- the tuple's items, each in a new pair with its number -/
def Itu (K : PySem.W.Frag) (a : Addr) : It :=
  ⟨fun i H => ∃ (xs : List V) (x : V), SqT K H a xs ∧ xs[i]? = some x, fun i H v H' => ∃ T x, v = .ref T ∧ H T = none ∧ H' = upd H T (.tup [.int (i : Nat), x]) ∧ ∀ xs, SqT K H a xs → xs[i]? = some x, fun i H => ∃ xs : List V, SqT K H a xs ∧ xs.length ≤ i⟩
theorem turn_enT {P : Program} {w : World} {K : PySem.W.Frag} {elts : List Expr} {kk : Nat} {tpos : Pos} (a e it : Addr) (ha1 : a ≠ e) (ha2 : a ≠ it) :
    Turn P w K (.Tuple elts kk tpos) (Itu K a) [e, it] e (fun i h => (∃ old, IsEnum h e it ((i : Nat) : Int) old) ∧ h.IsTupleIter it a i ∧ e ≠ it) where
  mem := by simp
  obj := fun i h st b hb => by
    obtain ⟨⟨old, he⟩, ⟨o, ho, hc, hd⟩, _⟩ := st
    rcases (by simpa using hb : b = e ∨ b = it) with z | z
    · rw [z]; exact ⟨_, he, fun v q => nomatch q⟩
    · rw [z]; exact ⟨o, ho, fun v q => by rw [hd] at q; cases q⟩
  keep := fun i h h' st k => let ⟨⟨old, he⟩, hi, hne⟩ := st; ⟨⟨old, k e (by simp) _ he⟩, hi.at fun o q => k it (by simp) o q, hne⟩
  item := by
    intro X hP hw hK hc i pins s σ H E I hf st hg
    subst hP hw hK
    obtain ⟨⟨old, he⟩, hit, hne⟩ := st
    obtain ⟨xs, x, hq, hx⟩ := hg
    obtain ⟨its, rv, p, hz⟩ := I.tuple hq
    obtain ⟨u, hu, ru⟩ := rv.get hx
    have hel : e < s.heap.objs.size := Heap.lt_size he
    have hil : it < s.heap.objs.size := by obtain ⟨_, q, _⟩ := hit; exact Heap.lt_size q
    have p : s.heap.IsTuple a its.toArray := p
    have hlt : i < its.toArray.size := by
      have := (List.getElem?_eq_some_iff.mp hu).1
      simpa using this
    have DT := Draws.tuple (prog := X.prog) (w := X.w) (A := X.A.in1) (I.ok.hd hc) it a ha2 its.toArray
    refine wpAny_pyNext_enum_itemD DT he ⟨hit, p⟩ hlt hne (by simp [hne, Ne.symm ha1]) fun u' h' tk hu' ho hst' hT hsz hk => ?_
    have hu2 : its.toArray[i]? = some u' := hu'
    have eu : u' = u := by
      have : its[i]? = some u' := by simpa using hu2
      rw [hu] at this; exact (Option.some.inj this).symm
    subst eu
    refine ⟨_, rfl, wpAny_letOwnedTupleGo_enum (s := { s with heap := h', toks := tk + 1 }) ho fun h'' he' sb => ?_⟩
    have hT2 : h''.get? s.heap.objs.size = some { cls := .type "tuple", data := .seq #[.int i tk, u'] } := (sb.2 _ (Nat.ne_of_gt hel)).trans hT
    have new : ObjOk X.prog X.w (upd H s.heap.objs.size (.tup [.int (i : Nat), x])) h'' s.heap.objs.size (.tup [.int (i : Nat), x]) := ⟨by show 2 ≤ sizeLine; decide, [.int i tk, u'], .cons ⟨_, rfl⟩ (.cons ru .nil), ⟨_, hT2, rfl, _, rfl⟩⟩
    have I1 : Inv X pins σ (upd H s.heap.objs.size (.tup [.int (i : Nat), x])) { s with heap := h'', toks := tk + 1 } := I.turnedNew (ch := [e, it]) (fun b ob hb q => (sb.2 b (fun z => hb (by simp [z]))).trans (hk b ob (fun z => hb (by simp [z])) (fun z => hb (by simp [z])) q)) hf (Nat.le_refl _) new
    refine ⟨.ref s.heap.objs.size, _, I1, rfl, ⟨_, x, rfl, I.hok.fresh (Nat.le_refl _), rfl, fun ys hy => by rw [I.tuple_inj hy hq]; exact hx⟩, ⟨⟨u', ?_⟩, hst'.1.at fun o q => (sb.2 it (Ne.symm hne)).trans q, hne⟩, fun b hb => ?_⟩
    · rw [show ((i + 1 : Nat) : Int) = (i : Int) + 1 by omega]; exact he'
    · have hb2 : b < s.heap.objs.size := by
        rcases (by simpa using hb : b = e ∨ b = it) with z | z
        · rw [z]; exact hel
        · rw [z]; exact hil
      rw [upd_ne (Nat.ne_of_lt hb2)]
      exact (hf b hb).1
  done := by
    intro X hP hw hK hc i pins s σ H E I hf st hg
    subst hP hw hK
    obtain ⟨⟨old, he⟩, hit, hne⟩ := st
    obtain ⟨xs, hq, hx⟩ := hg
    obtain ⟨its, rv, p, hz⟩ := I.tuple hq
    obtain ⟨f0, f1, f2, f3, f4, f5⟩ := hf it (by simp)
    have hl := rv.length
    exact en_end (I.ok.hd hc) he hit (show s.heap.IsTuple a its.toArray from p) (by simp; omega) fun h' eb => ⟨rfl, I.turned (t' := s.toks) (fun b o hb q => eb b o hb q) f0 f1 f3 f4 f5⟩
  self := fun A i s Q E st h => let ⟨⟨_, he⟩, _⟩ := st; wpAny_pyIter_enum he h
def iEnT (K : PySem.W.Frag) (ta : TA) : TI := fun σ H R => ta σ H fun vs H1 => ∃ a xs, vs = [.ref a] ∧ SqT K H1 a xs ∧ R (Itu K a) H1
theorem pi_enT {X : Cx} {e : Expr} {ta : TA} {p pos tpos : Pos} {elts : List Expr} {kk : Nat} (hg : Gl X "enumerate") (hm : X.mg "enumerate" = none) (ha : PA X [e] ta) (hs : starEach [e] X.env = [(false, eval e X.env)] := by rfl) :
    PI X (.Tuple elts kk tpos) (.Call (.Name "enumerate" p) [e] [] pos) (iEnT X.K ta) := by
  refine ⟨fun pins s σ H R I h => ?_⟩
  refine Call_ (ld_blt I hg hm boot_enumerate (PyProof.Rows.callWith_type1 (thn (ha.run pos pins s σ H _ I h) fun us s1 ⟨vs, H1, I1, r1, q1⟩ => ?_) hs rfl))
  obtain ⟨a, xs, ex, hq, q⟩ := q1
  subst ex
  cases r1 with
  | cons r rr =>
    cases rr
    cases r
    obtain ⟨its, rv, p2, hz⟩ := I1.tuple hq
    have p3 : s1.heap.IsTuple a its.toArray := p2
    have hal : a < s1.heap.objs.size := by obtain ⟨_, q, _⟩ := p3; exact Heap.lt_size q
    refine en_call p3 fun h' he hit hk => wpAny_pyIter_enum he ?_
    have I2 : Inv X pins σ H1 { s1 with heap := h' } := I1.kept (t' := s1.toks) hk
    refine ⟨s1.heap.objs.size + 1, [s1.heap.objs.size + 1, s1.heap.objs.size], _, _, H1, rfl, I2, turn_enT a (s1.heap.objs.size + 1) s1.heap.objs.size (Nat.ne_of_lt (Nat.lt_succ_of_lt hal)) (Nat.ne_of_lt hal), ⟨⟨.none, he⟩, hit, Nat.succ_ne_self _⟩, fun b hb => ?_, q⟩
    have hle : s1.heap.objs.size ≤ b := by
      rcases (by simpa using hb : b = s1.heap.objs.size + 1 ∨ b = s1.heap.objs.size) with z | z
      · rw [z]; exact Nat.le_succ _
      · rw [z]; exact Nat.le_refl _
    exact I1.fpOk hle (I1.hok.fresh hle)
/-! the mirror -/
def enumD (ds : List D) : List D := ds.zipIdx.map fun p => .tup [.int (p.2 : Nat), p.1]
theorem enumD_get {ds : List D} {i : Nat} {z : D} (h : (enumD ds)[i]? = some z) : ∃ d, ds[i]? = some d ∧ z = .tup [.int (i : Nat), d] := by
  unfold enumD at h
  rw [List.getElem?_map, List.getElem?_zipIdx] at h
  cases hd : ds[i]? with
  | none => rw [hd] at h; cases h
  | some d => rw [hd] at h; simp at h; exact ⟨d, rfl, h.symm⟩
theorem enumD_len (ds : List D) : (enumD ds).length = ds.length := by unfold enumD; simp
theorem itu_r {K : PySem.W.Frag} {G : Gh} {a : Addr} {vs : List V} {ds : List D} (h : G.F a = some (.tup vs)) (rs : Reps K G vs ds) : ItR K (Itu K a) G (enumD ds) where
  go := fun pn w r g i hi => by
    rw [enumD_len, ← rs.length] at hi
    exact ⟨vs, vs[i], tqT (fun b o q => r.ex b o (g.f b o q)) h, List.getElem?_eq_getElem hi⟩
  yld := fun pn w r g i d x H' hd hy => by
    obtain ⟨T, y, rfl, hT, rfl, hy⟩ := hy
    obtain ⟨d0, h0, rfl⟩ := enumD_get hd
    obtain ⟨v, h1, h2⟩ := rs.get h0
    have e := hy vs (tqT (fun b o q => r.ex b o (g.f b o q)) h)
    rw [h1] at e
    cases e
    have hn := r.noF hT
    exact ⟨_, gle_upd hn, r.new hT, .tup upd_same (.cons (.int _) (.cons (h2.mono (g.trans (gle_upd hn))) .nil))⟩
  stop := fun pn w r g i hi => by
    rw [enumD_len, ← rs.length] at hi
    exact ⟨vs, tqT (fun b o q => r.ex b o (g.f b o q)) h, hi⟩
theorem ite_r {K : PySem.W.Frag} {G : Gh} {a : Addr} {vs : List V} {ds : List D} (h : SqL K G.F a vs) (rs : Reps K G vs ds) : ItR K (Ite K a) G (enumD ds) where
  go := fun pn w r g i hi => by
    rw [enumD_len, ← rs.length] at hi
    exact ⟨vs, vs[i], sqL_mono (fun b o q => r.ex b o (g.f b o q)) h, List.getElem?_eq_getElem hi⟩
  yld := fun pn w r g i d x H' hd hy => by
    obtain ⟨T, y, rfl, hT, rfl, hy⟩ := hy
    obtain ⟨d0, h0, rfl⟩ := enumD_get hd
    obtain ⟨v, h1, h2⟩ := rs.get h0
    have e := hy vs (sqL_mono (fun b o q => r.ex b o (g.f b o q)) h)
    rw [h1] at e
    cases e
    have hn := r.noF hT
    exact ⟨_, gle_upd hn, r.new hT, .tup upd_same (.cons (.int _) (.cons (h2.mono (g.trans (gle_upd hn))) .nil))⟩
  stop := fun pn w r g i hi => by
    rw [enumD_len, ← rs.length] at hi
    exact ⟨vs, sqL_mono (fun b o q => r.ex b o (g.f b o q)) h, hi⟩
def mEnum (m : ME) : MA := bnd m fun d s => match itD d with
  | some ds => .ok (enumD ds) s
  | none => .stuck
theorem ji_enum {X : Cx} {W : WX} {e : Expr} {m : ME} {p pos tpos : Pos} {elts : List Expr} {kk : Nat} (hg : Gl X "enumerate") (hm : X.mg "enumerate" = none) (h : JE X W e m) (hs : starEach [e] X.env = [(false, eval e X.env)] := by rfl) (hs1 : starEach [e] X.env = (false, eval e X.env) :: starEach [] X.env := by rfl) : JI X W (.Tuple elts kk tpos) (.Call (.Name "enumerate" p) [e] [] pos) (mEnum m) := by
  refine PI.imp (PI.or (pi_enum hg hm (pa_cons h pa_nil hs1) hs) (pi_enT hg hm (pa_cons h pa_nil hs1) hs)) fun σ H Q h => ?_
  obtain ⟨w, rfl, rfl, r, h⟩ := h
  have key : ∀ (d : D) (s' : S), m w.s = .ok d s' → ∃ ds, itD d = some ds ∧ okG X.K X.pn W (AI X.K) w Q (.ok (enumD ds) s') := fun d s' e => by
    unfold mEnum bnd at h
    rw [e] at h
    dsimp only at h
    cases hi : itD d with
    | none => rw [hi] at h; exact h.elim
    | some ds => rw [hi] at h; exact ⟨ds, rfl, h⟩
  cases hmm : m w.s with
  | ok d s' =>
    obtain ⟨ds, hi, hk⟩ := key d s' hmm
    cases ht : isTup d with
    | false =>
      refine .inl ⟨w, rfl, rfl, r, ?_⟩
      rw [hmm]
      intro G' v H' g r' p
      obtain ⟨a, vs, rfl, h1, h2⟩ := rep_sq p hi ht
      exact ⟨a, vs, rfl, sqL_mono r'.ex h1, hk G' _ H' g r' (ite_r h1 h2)⟩
    | true =>
      refine .inr ⟨w, rfl, rfl, r, ?_⟩
      rw [hmm]
      intro G' v H' g r' p
      obtain ⟨a, vs, rfl, h1, h2⟩ := rep_st p hi ht
      exact ⟨a, vs, rfl, tqT r'.ex h1, hk G' _ H' g r' (itu_r h1 h2)⟩
  | exc y s' =>
    refine .inl ⟨w, rfl, rfl, r, ?_⟩
    unfold mEnum bnd at h
    rw [hmm] at h ⊢
    exact h
  | stuck =>
    unfold mEnum bnd at h
    rw [hmm] at h
    exact h.elim
end DL

namespace DL
open PySem PySem.Spec PySem.W L2
/-! ### isinstance(e, C), e the caught error, with or without fields -/
section
variable {K : Frag} {x D : Addr} {ox : Obj} {od : Option Obj} {prog : Program} {w : World} {A : Around} {E : Value → Shared → Prop} {s : Shared}
theorem x_cls {Q : Option Value → Shared → Prop} (C : ExcC K D) (X : K.In s.heap) (I : PySem.W.InstAt s.heap x ox D od) (h : Q (some (.ref D)) { s with toks := s.toks + 1 }) : wpAny (model prog w) A (getAttr? (.ref x) "__class__") Q E s := by
  have hf : findObj K D od "__class__" = some (.bind (.builtin "getset_descriptor.__get__") (.builtin "object.__class__")) := by
    obtain ⟨cd, hc, _⟩ := any_some C.hd
    unfold findObj
    rw [hc, Option.bind_some, C.ha, Option.bind_some]
    simp [C.hn, C.ht]
  obtain ⟨hp, gl, dr, tk, os⟩ := s
  have t0 := I.type (M := model prog w)
  have t1 := looks_findIn (M := model prog w) X C.hg
  have t2 := looks_findIn (M := model prog w) X C.hk
  have t3 := looks_find (M := model prog w) X I hf
  have sb : Looks (model prog w) hp (isInstance (.ref x) (.type "BaseException")) true := t0.andThen (looks_subIn X C.hs)
  have n0 : (false && onTheHeap (Value.builtin "BaseException.__getattribute__")) = false := rfl
  have n2 : (Value.builtin "BaseException.__getattribute__" == Value.builtin "object.__getattribute__") = false := by decide +kernel
  have n1 : (onTheHeap (Value.ref D) && Value.builtin "BaseException.__getattribute__" == Value.builtin "object.__getattribute__") = false := by rw [n2]; rfl
  unfold getAttr? getAttrBy? getAttrBy
  refine wpAny_bind (wpAny_mkText (wpAny_bind (wpAny_attempt (wpAny_holding (wpAny_bind (t0.at (wpAny_bind (t1.at ?_))))))))
  show wpAny _ _ (if (onTheHeap (Value.ref D) && Value.builtin "BaseException.__getattribute__" == Value.builtin "object.__getattribute__") = true then _ else _) _ _ _
  rw [n1, if_neg Bool.false_ne_true]
  unfold getAttrByItsOwn hookBefore
  refine wpAny_bind ?_
  rw [if_pos (show onTheHeap (Value.ref D) = true from rfl)]
  refine t2.at (wpAny_bind (wpAny_attempt (wpAny_holding ?_)))
  unfold callGetattribute
  rw [n0, if_neg Bool.false_ne_true]
  unfold boundAndCalled
  rw [PySem.F.excAttr_ValueError.ga.bind (.ref x)]
  refine wpAny_bind (wpAny_pure ?_)
  show wpAny _ _ (call (.builtin "BaseException.__getattribute__") [.ref x, .str "__class__" tk]) _ _ _
  refine wpAny_call (codeAny_call_builtin PySem.F.excAttr_ValueError.ga.plain PySem.F.entry_bexc_ga ?_)
  refine @check_slot (model prog w) _ _ ⟨hp, gl, dr, tk + 1, os⟩ "BaseException.__getattribute__" "BaseException" "__getattribute__" (.ref x) [.str "__class__" tk] [] _ (by decide +kernel) (by decide +kernel) sb (PySem.F.args_bexc_ga (.ref x) (.str "__class__" tk)) ?_
  unfold Builtin.«object.__getattribute__»
  refine wpAny_bind (wpAny_of_eq (a := ((Value.ref x : Value), [Value.str "__class__" tk])) (by first | rfl | (simp only [slotArgs]; rfl)) ?_)
  refine wpAny_bind (wpAny_pure (wpAny_bind (t0.at (wpAny_bind (t3.at ?_)))))
  show wpAny _ _ (holding [Value.builtin "object.__class__"] (call (.builtin "getset_descriptor.__get__") [.builtin "object.__class__", .ref x, .ref D]) >>= PySem.ret) _ _ _
  refine wpAny_bind (wpAny_holding (wpAny_call (class_get (s := ⟨hp, gl, dr, tk + 1, os⟩) (ox := ox) (od := od) X I C.hm ?_)))
  refine wpAny_pure ?_
  show wpAny _ _ (handedOut (.ref D)) _ _ _
  rw [handedOut_of (v := .ref D) rfl]
  first
    | exact wpAny_pure (wpAny_pure h)
    | exact wpAny_pure (wpAny_bind (wpAny_pure (wpAny_pure h)))
    | exact wpAny_pure h
theorem x_kit (C : ExcC K D) : KitX K (.ref x) (.ref D) (fun h => PySem.W.InstAt h x ox D od) where
  ty := fun _ _ _ I => I.type
  it := fun _ _ X _ => by
    obtain ⟨cdD, hcD, _⟩ := any_some C.hd
    unfold clsIn at hcD
    split at hcD
    · rename_i ho
      intro A2 Q2 E2 s2 k q
      unfold isType loadHead
      exact wpAny_bind (wpAny_loadPart (k _ _ (X _ _ ho)) (wpAny_pure q))
    · cases hcD
  ne := fun h tp dd its n sl X htp => (handS_kitx_exc (x := x) (ox := ox) C.hg C.hk C.hs C.hd C.ha C.hn C.ht C.hm).ne h tp dd its n sl X htp
  ca := fun X I k => x_cls C X I k
end
def rIsX (K : Frag) (cls : Value) (dd : Option Addr) (D a : Addr) : List V → Hp → VK → Prop := fun xs H Q => ∃ (c : V) (cv : Value) (b : Bool), xs = [.ref a, c] ∧ cls = .ref D ∧ (dd = none ∨ ∃ p fs, dd = some p ∧ H p = some (.xd fs)) ∧ (∀ u, RelV c u → u = cv) ∧ kitOne K (.ref D) cv = some b ∧ Q (.bl b) H
theorem call_isX {X : Cx} {a D : Addr} {oe : Obj} {cls : Value} {dd : Option Addr} {pn : List (Addr × Obj)} (C : ExcC X.K D) (hz : Zc cls dd oe) (hf : ∃ vs, oe.data = .fields vs) : CallR (X.suite a ((a, oe) :: pn)) (.builtin "isinstance") (rIsX X.K cls dd D a) := by
  intro pins s σ H xs us Q I r h
  obtain ⟨c, cv, b, rfl, rfl, hdd, hcv, e, q⟩ := h
  obtain ⟨u1, u2, rfl, r1, r2⟩ := vals2 r
  cases r1
  have ec := hcv _ r2
  subst ec
  obtain ⟨hget, _⟩ := I.pin (a, oe) (List.mem_append.mpr (.inl List.mem_cons_self))
  obtain ⟨vs, hv⟩ := hf
  have no : notCls oe = true := by unfold notCls; rw [hv] <;> rfl
  obtain ⟨od, J⟩ : ∃ od, PySem.W.InstAt s.heap a oe D od := by
    rcases hdd with rfl | ⟨p, fs, rfl, hp⟩
    · exact ⟨none, hget, hz.1, no, by rw [hz.2]; trivial⟩
    · obtain ⟨mA, hns, _⟩ := (show ObjOk X.prog X.w H s.heap p (.xd fs) from I.hok p _ hp)
      obtain ⟨od, ho, _⟩ := lookIn_ns hns
      exact ⟨some od, hget, hz.1, no, by rw [hz.2]; exact ho⟩
  exact kia_one (x_kit C) I.kIn J e (fun z => nomatch z) fun tk => ⟨.bl b, H, I.kept (t' := tk) fun _ _ z => z, rfl, q⟩
/-- isinstance(e, C): e in slot i; tab: by the error's class -/
def mIsX (tab : Str → Option Bool) (i : Nat) : ME := fun s => match s.sl[i]? with
  | some (.xn x) => (match tab x.c with
    | some b => .ok (.bl b) s
    | none => .stuck)
  | _ => .stuck
section
variable {X : Cx} {a : Addr} {oe : Obj} {cls : Value} {d : Option Addr} {pn : List (Addr × Obj)} {i : Nat} {y c : Str} {p q pos fp : Pos}
/-- a call rule that may lean on the class of the error that is held -/
theorem call_isXs {tab : Str → Option Bool} {cv : Value} (hC : ∀ z b, tab z = some b → ExcC X.K (He.ga X.K z) ∧ kitOne X.K (.ref (He.ga X.K z)) cv = some b) (hz : Zc cls d oe) (hf : ∃ vs, oe.data = .fields vs) :
    CallR (X.suite a ((a, oe) :: pn)) (.builtin "isinstance") (fun xs H Q => ∃ z b, tab z = some b ∧ cls = .ref (He.ga X.K z) ∧ (d = none ∨ ∃ p fs, d = some p ∧ H p = some (.xd fs)) ∧ (∃ v, xs = [.ref a, v] ∧ ∀ u, RelV v u → u = cv) ∧ Q (.bl b) H) := by
  intro pins s σ H xs us Q I r h
  obtain ⟨z, b, h1, h2, h3, ⟨v, rfl, h4⟩, q⟩ := h
  obtain ⟨C, k⟩ := hC z b h1
  exact call_isX C hz hf pins s σ H _ us Q I r ⟨v, cv, b, rfl, h2, h3, h4, k, q⟩
theorem je_isX {tab : Str → Option Bool} {cv : Value} {v : V} (hC : ∀ z b, tab z = some b → ExcC X.K (He.ga X.K z) ∧ kitOne X.K (.ref (He.ga X.K z)) cv = some b) (hz : Zc cls d oe) (hf : ∃ vs, oe.data = .fields vs) (hg : Gl X "isinstance") (hm : X.mg "isinstance" = none)
    (hc : PE (X.suite a ((a, oe) :: pn)) (.Name c q) (tC v)) (hcv : ∀ u, RelV v u → u = cv) (hN : X.N[i]? = some y := by rfl) (hv : Vis X.env.scope y := by first | exact Or.inl rfl | exact Or.inr (Or.inl rfl) | exact Or.inr (Or.inr rfl)) (hd : (y == ("__debug__" : Str)) = false := by decide) (hcd : (y == ("__classdict__" : Str)) = false := by decide)
    (hs : starEach [.Name y p, .Name c q] X.env = (false, eval (.Name y p) X.env) :: starEach [.Name c q] X.env := by rfl) (hs2 : starEach [.Name c q] X.env = (false, eval (.Name c q) X.env) :: starEach [] X.env := by rfl) (h2 : (backTo pos (starEach [.Name c q] X.env)).any (·.1) = false := by rfl) :
    JE (X.suite a ((a, oe) :: pn)) WF (.Call (.Name "isinstance" fp) [.Name y p, .Name c q] [] pos) (mIsX tab i) := by
  refine PE.imp (pe_callB (X := X.suite a ((a, oe) :: pn)) (call_isXs hC hz hf) hg hm rfl (pa_cons (pv (X := X.suite a ((a, oe) :: pn)) i hN hv hd hcd) (pa_cons hc pa_nil hs2) hs) (by decide) (by decide) hs h2) fun σ H Q h => ?_
  obtain ⟨w, rfl, rfl, r, h⟩ := h
  unfold mIsX at h
  split at h
  · rename_i x hx
    split at h
    · rename_i b hb
      obtain ⟨a', oe', tl, cls', d', e1, e2, e3, e4⟩ := r.sl.xn i x hx
      cases e1
      have ec : cls' = cls := e3.1.symm.trans hz.1
      have ed : d' = d := e3.2.symm.trans hz.2
      subst ec ed
      obtain ⟨q1, q2⟩ := e4
      refine ⟨_, e2, x.c, b, hb, q1, ?_, ⟨v, rfl, hcv⟩, h _ _ _ (.refl _) r (.bl _)⟩
      cases hfs : x.fs with
      | nil => rw [hfs] at q2; exact .inl q2
      | cons f fs =>
        rw [hfs] at q2
        obtain ⟨b2, fvs, k1, k2, _⟩ := q2
        exact .inr ⟨b2, fvs, k1, r.ex _ _ k2⟩
    · exact h.elim
  · exact h.elim
end
end DL

/-! The head's Hook, widened: facts of one's own, error classes. -/
namespace HK
open PySem PySem.Spec PySem.W L2 DL He
/-- an error class: its name, its field, its __init__'s qualified name, the text, the places -/
structure XD where
  c : Str
  f : Str
  q : Str
  txt : Str
  p : XPos
  p6 : Pos
abbrev XW : Type := Option (Str × Str × Arguments × FuncBody × Scope × Addr × List Str × Addr)
def iAd (K : Frag) (d : XD) : Addr := ma K (ga K d.c) "__init__"
def xW (K : Frag) (d : XD) : XW := match K.lookup (iAd K d) with
  | some ⟨_, _, .func fd, _⟩ => some (fd.name, fd.qualname, fd.params, fd.body, fd.scope, fd.globals, fd.closure.map (·.1), fd.builtins)
  | _ => none
def XD.val (d : XD) : XW := some ("__init__", d.q, xParams d.f d.p, .stmts [xSuper d.txt d.p d.p6, xStore d.f d.p], xScope d.f, mainGlobals, ["__class__"], builtinsNs)
def fileB (K : Frag) (file : Str) : Value → Bool
  | .ref cda => (match K.lookup cda with
    | some ⟨_, _, .fields vs, _⟩ => (match vs[2]? with
      | some (Value.str y _) => (file == y)
      | _ => false)
    | _ => false)
  | _ => false
def cellB (K : Frag) (C : Addr) : List (Str × Addr) → Bool
  | [(_, cc)] => (match K.lookup cc with
    | some ⟨_, _, .cell (some (.ref b)), _⟩ => decide (b = C)
    | _ => false)
  | _ => false
def noneB : Value → Bool
  | .none => true
  | _ => false
def excB (K : Frag) (C : Addr) : Bool := eqO (findIn K (.ref C) "__class__") (some (some (.builtin "object.__class__"))) && (eqO (specialIn K (.builtin "object.__class__") "__get__") (some (some (.builtin "getset_descriptor.__get__"))) && (decide (takesIn K (.builtin "object.__class__") = some true) && (decide (mroIn K C (.type "object") = some true) && xfB K C)))
theorem excB_ok {K : Frag} {C : Addr} (h : excB K C = true) : ExcC K C := by
  obtain ⟨h1, h⟩ := ba h
  obtain ⟨h2, h⟩ := ba h
  obtain ⟨h3, h⟩ := ba h
  obtain ⟨h4, h⟩ := ba h
  obtain ⟨k1, k2, k3, k4⟩ := xfB_ok h
  exact ⟨k1, k2, k3, k4, eqO_ok h1, eqO_ok h2, of_decide_eq_true h3, of_decide_eq_true h4⟩
def xFunB (K : Frag) (file : Str) (d : XD) : Bool := match K.lookup (iAd K d) with
  | some ⟨_, _, .func fd, _⟩ => codeIn K fd.code d.q && (fileB K file fd.code && (cellB K (ga K d.c) fd.closure && (noneB fd.defaults && noneB fd.kwdefaults)))
  | _ => false
def xB1 (K : Frag) (d : XD) : Bool := excInitIn K (ga K d.c) HandSPX.veTail "ValueError.__new__" && ((match clsIn K (ga K d.c) with
  | some cd => HandSPX.refsVE cd.mro && cd.hasDict
  | none => false) && (eqO (findIn K (.ref (ga K d.c)) "__setattr__") (some (some (.builtin "object.__setattr__"))) && (eqO (findIn K (.ref (ga K d.c)) d.f) (some none) && (keepIn K (.ref (ga K d.c)) && (decide (subIn K (.ref (ga K d.c)) (.type "BaseException") = some true) && decide (subIn K (.ref (ga K d.c)) (.type "ValueError") = some true))))))
def xB2 (K : Frag) (d : XD) : Bool := decide (typeIn K (.ref (ga K d.c)) = some (.type "type")) && (eqO (ks_superIn K (ga K d.c) (ga K d.c) "__init__") (some (some (.builtin "ValueError.__init__"))) && (decide (mroIn K (ga K d.c) (.ref (ga K d.c)) = some true) && (eqO (nsIn K cStatics "thirdparty.any") (some none) && (eqO (findIn K (.ref (ga K d.c)) "__init__") (some (some (.ref (iAd K d)))) && decide (typeIn K (.ref (iAd K d)) = some (.type "function"))))))
def XD.ok (K : Frag) (file : Str) (d : XD) : Bool := xB1 K d && (xB2 K d && (xFunB K file d && excB K (ga K d.c)))
/-- what is asked of the field's name -/
def XD.nm (d : XD) : Bool := decide (¬ d.f = "self") && (decide (¬ d.f = "super") && (decide (¬ d.f = "__class__") && (!(d.f == ("__debug__" : Str)))))
theorem XD.xc {P : Program} {K : Frag} {mg : Str → Option Value} {d : XD} (e : xW K d = d.val) (c : d.ok K P.main.file = true) (hn : d.nm = true) (hg : mg "super" = none) (ht : (P.main.scope.names.lookup ("super" : Str)).isSome = false) (hl : (d.p.b3.endLine == d.p.b5.line) = true)
    (hb : ∀ cc doc pm an cdv ct a b, bindArgs (fnX "__init__" d.q (xParams d.f d.p) [xSuper d.txt d.p d.p6, xStore d.f d.p] (xScope d.f) [("__class__", cc)] .none .none doc pm an (.ref cdv) ct) ⟨[a, b], []⟩ = pure [(("self" : Str), a), (d.f, b)]) : XC P K mg (ga K d.c) d.f := by
  obtain ⟨c1, c⟩ := ba c
  obtain ⟨c2, c⟩ := ba c
  obtain ⟨c3, c4⟩ := ba c
  obtain ⟨a1, c1⟩ := ba c1
  obtain ⟨a2, c1⟩ := ba c1
  obtain ⟨a3, c1⟩ := ba c1
  obtain ⟨a4, c1⟩ := ba c1
  obtain ⟨a5, c1⟩ := ba c1
  obtain ⟨a6, a7⟩ := ba c1
  obtain ⟨b1, c2⟩ := ba c2
  obtain ⟨b2, c2⟩ := ba c2
  obtain ⟨b3, c2⟩ := ba c2
  obtain ⟨b4, c2⟩ := ba c2
  obtain ⟨b5, b6⟩ := ba c2
  obtain ⟨n1, hn⟩ := ba hn
  obtain ⟨n2, hn⟩ := ba hn
  obtain ⟨n3, n4⟩ := ba hn
  refine ⟨a1, ?_, eqO_ok a3, eqO_ok a4, a5, of_decide_eq_true a6, of_decide_eq_true a7, of_decide_eq_true b1, eqO_ok b2, of_decide_eq_true b3, eqO_ok b4, hg, ht, ?_, of_decide_eq_true n1, of_decide_eq_true n2, of_decide_eq_true n3, by simpa using n4⟩
  · cases q : clsIn K (ga K d.c) with
    | none => rw [q] at a2; cases a2
    | some cd =>
      rw [q] at a2
      obtain ⟨z1, z2⟩ := ba a2
      exact ⟨cd, rfl, z1, z2⟩
  · unfold xFunB at c3
    unfold xW at e
    cases q : K.lookup (iAd K d) with
    | none => rw [q] at c3; cases c3
    | some o =>
      obtain ⟨oc, od, dt, osl⟩ := o
      rw [q] at c3 e
      cases dt with
      | func fd =>
        obtain ⟨m1, m2, m3, m4, m5, m6, m7, m8, m9, m10, m11, m12, m13, m14, m15⟩ := fd
        have e2 : (some (m1, m2, m3, m4, m5, m6, m7.map (·.1), m15) : XW) = d.val := e
        unfold XD.val at e2
        simp only [Option.some.injEq, Prod.mk.injEq] at e2
        obtain ⟨h1, h2, h3, h4, h5, h6, h7, h8⟩ := e2
        subst h1 h2 h3 h4 h5 h6 h8
        obtain ⟨k1, c3⟩ := ba (show (codeIn K m13 d.q && (fileB K P.main.file m13 && (cellB K (ga K d.c) m7 && (noneB m8 && noneB m9)))) = true from c3)
        obtain ⟨k2, c3⟩ := ba c3
        obtain ⟨k3, c3⟩ := ba c3
        obtain ⟨k4, k5⟩ := ba c3
        have e8 : m8 = .none := by cases m8 <;> first | rfl | cases k4
        have e9 : m9 = .none := by cases m9 <;> first | rfl | cases k5
        subst e8 e9
        match m7, h7, k3 with
        | [(z, cc)], h7, k3 =>
          have ez : z = "__class__" := by simpa using h7
          subst ez
          cases m13 with
          | ref cda =>
            have hcell : ∃ (cl : Value) (cld : Option Addr) (csl : Array (Option Value)), K.lookup cc = some ⟨cl, cld, .cell (some (.ref (ga K d.c))), csl⟩ := by
              have k3 : (match K.lookup cc with
                | some ⟨_, _, .cell (some (.ref b)), _⟩ => decide (b = ga K d.c)
                | _ => false) = true := k3
              split at k3
              · rename_i hh
                have := of_decide_eq_true k3
                subst this
                exact ⟨_, _, _, hh⟩
              · cases k3
            have hfile : ∃ (ccl : Value) (cdd : Option Addr) (vs : Array Value) (ccs : Array (Option Value)) (file : Str) (tf : Tok), K.lookup cda = some ⟨ccl, cdd, .fields vs, ccs⟩ ∧ vs[2]? = some (.str file tf) ∧ ((P.main.file : Str) == file) = true := by
              have k2 : (match K.lookup cda with
                | some ⟨_, _, .fields vs, _⟩ => (match vs[2]? with
                  | some (Value.str y _) => (P.main.file == y)
                  | _ => false)
                | _ => false) = true := k2
              split at k2
              · rename_i hh
                split at k2
                · rename_i hv
                  exact ⟨_, _, _, _, _, _, hh, hv, k2⟩
                · cases k2
              · cases k2
            exact ⟨iAd K d, oc, od, m10, m11, m12, cda, m14, osl, cc, d.p, d.p6, d.txt, d.q, hl, fun a b => hb cc m10 m11 m12 cda m14 a b, eqO_ok b5, of_decide_eq_true b6, q, k1, hfile, hcell⟩
          | _ => cases k2
        | [], h7, k3 => cases k3
        | _ :: _ :: _, h7, k3 => cases k3
      | _ => cases c3
/-! ### the Hook -/
abbrev AlX : Type := Bool × List FnW × List XW
def obsX (file : Str) (fa : List Fa) (fb : List (Frag → Bool)) (fn : List DefD) (xs : List XD) (K : Frag) : AlX := ((fa.all fun f => f.ok K) && ((fb.all fun f => f K) && ((fn.all fun d => d.ok K) && xs.all fun d => d.ok K file)), fn.map fun d => fnW K d.at_, xs.map fun d => xW K d)
def valX (fn : List DefD) (xs : List XD) : AlX := (true, fn.map DefD.val, xs.map XD.val)
def SaysX (file : Str) (fa : List Fa) (fb : List (Frag → Bool)) (fn : List DefD) (xs : List XD) (K : Frag) : Prop := obsX file fa fb fn xs K = valX fn xs
def obsXG (n : Nat) (file : Str) (fa : List Fa) (fb : List (Frag → Bool)) (fn : List DefD) (xs : List XD) (g : Addr → Option Obj) : AlX := obsX file fa fb fn xs (frG g (cStatics :: asD g n))
def hookX (n : Nat) (file : Str) (fa : List Fa) (fb : List (Frag → Bool)) (fn : List DefD) (xs : List XD) : Hook where
  α := AlX
  obs := fun s => obsXG n file fa fb fn xs s.heap.get?
  val := fun _ => valX fn xs
  says := fun _ h => ∃ K : Frag, K.In h ∧ SaysX file fa fb fn xs K
  of := fun _ _ e => ⟨_, frG_in, e⟩
  keeps := fun _ _ _ ⟨K, hK, c⟩ k => ⟨K, Frag.In.keeps hK k, c⟩
theorem obsXG_eq {n : Nat} {file : Str} {fa : List Fa} {fb : List (Frag → Bool)} {fn : List DefD} {xs : List XD} {g : Addr → Option Obj} {s : Shared} (h : ∀ a, g a = s.heap.get? a) : obsXG n file fa fb fn xs g = (hookX n file fa fb fn xs).obs s := by
  have e : g = s.heap.get? := funext h
  rw [e] <;> rfl
section
variable {file : Str} {fa : List Fa} {fb : List (Frag → Bool)} {fn : List DefD} {xs : List XD} {K : Frag}
theorem SaysX.bits (c : SaysX file fa fb fn xs K) : (fa.all fun f => f.ok K) = true ∧ (fb.all fun f => f K) = true ∧ (fn.all fun d => d.ok K) = true ∧ (xs.all fun d => d.ok K file) = true := by
  obtain ⟨h1, h⟩ := ba (show ((fa.all fun f => f.ok K) && ((fb.all fun f => f K) && ((fn.all fun d => d.ok K) && xs.all fun d => d.ok K file))) = true from congrArg (fun z : AlX => z.1) c)
  obtain ⟨h2, h⟩ := ba h
  obtain ⟨h3, h4⟩ := ba h
  exact ⟨h1, h2, h3, h4⟩
theorem SaysX.fact (c : SaysX file fa fb fn xs K) (i : Nat) {f : Fa} (h : fa[i]? = some f := by rfl) : f.ok K = true := List.all_eq_true.mp c.bits.1 f (List.mem_of_getElem? h)
theorem SaysX.fx (c : SaysX file fa fb fn xs K) (i : Nat) {f : Frag → Bool} (h : fb[i]? = some f := by rfl) : f K = true := List.all_eq_true.mp c.bits.2.1 f (List.mem_of_getElem? h)
theorem SaysX.def_ (c : SaysX file fa fb fn xs K) (i : Nat) {d : DefD} (h : fn[i]? = some d := by rfl) : ∃ fd, FunD K d.name d.qual d.params d.body d.scope (d.dvs K) (d.kws K) (fAd K d.at_) fd := by
  have e : fn.map (fun d => fnW K d.at_) = fn.map DefD.val := congrArg (fun z : AlX => z.2.1) c
  have e2 : (fn.map fun d => fnW K d.at_)[i]? = (fn.map DefD.val)[i]? := by rw [e]
  rw [List.getElem?_map, List.getElem?_map, h] at e2
  exact DefD.funD (Option.some.inj e2) (List.all_eq_true.mp c.bits.2.2.1 d (List.mem_of_getElem? h))
theorem SaysX.xc {P : Program} {mg : Str → Option Value} (c : SaysX P.main.file fa fb fn xs K) (i : Nat) {d : XD} (h : xs[i]? = some d) (hn : d.nm = true) (hg : mg "super" = none) (ht : (P.main.scope.names.lookup ("super" : Str)).isSome = false) (hl : (d.p.b3.endLine == d.p.b5.line) = true)
    (hb : ∀ cc doc pm an cdv ct a b, bindArgs (fnX "__init__" d.q (xParams d.f d.p) [xSuper d.txt d.p d.p6, xStore d.f d.p] (xScope d.f) [("__class__", cc)] .none .none doc pm an (.ref cdv) ct) ⟨[a, b], []⟩ = pure [(("self" : Str), a), (d.f, b)]) : XC P K mg (ga K d.c) d.f := by
  have e : xs.map (fun d => xW K d) = xs.map XD.val := congrArg (fun z : AlX => z.2.2) c
  have e2 : (xs.map fun d => xW K d)[i]? = (xs.map XD.val)[i]? := by rw [e]
  rw [List.getElem?_map, List.getElem?_map, h] at e2
  exact XD.xc (Option.some.inj e2) (List.all_eq_true.mp c.bits.2.2.2 d (List.mem_of_getElem? h)) hn hg ht hl hb
theorem SaysX.xf (c : SaysX file fa fb fn xs K) (i : Nat) {d : XD} (h : xs[i]? = some d) : XfC K (ga K d.c) ∧ ExcC K (ga K d.c) ∧ findIn K (.ref (ga K d.c)) d.f = some none := by
  obtain ⟨c1, c⟩ := ba (List.all_eq_true.mp c.bits.2.2.2 d (List.mem_of_getElem? h))
  obtain ⟨c2, c⟩ := ba c
  obtain ⟨c3, c4⟩ := ba c
  obtain ⟨a1, c1⟩ := ba c1
  obtain ⟨a2, c1⟩ := ba c1
  obtain ⟨a3, c1⟩ := ba c1
  obtain ⟨a4, c1⟩ := ba c1
  have k := excB_ok c4
  exact ⟨⟨k.hg, k.hk, k.hs, k.hd⟩, k, eqO_ok a4⟩
end
end HK

namespace DL
open PySem PySem.Spec L2
/-- nothing flies -/
theorem tkF {X : Cx} : Takes X WF := fun u s' x => by
  obtain ⟨a, B, sI, pins, σ, H, cls, d, e, I, nb, up, sky, na, os, ag, w⟩ := x
  exact w.elim
/-- slot i != e, the slot only looked at -/
def mNeV (i : Nat) (m : ME) : ME := fun s => match cur s i with
  | some _ => bnd m (fun e s => match cur s i with
    | some d => lift (fNe d e) s
    | none => .stuck) s
  | none => .stuck
theorem dp_al {K : PySem.W.Frag} {pn : List (Addr × Obj)} {w : Wd} {v : V} {d : D} {p : PyData} (r : Rel K pn w) (h : pd 50 d = some p) (q : AL K w v d) : Dp K w.H v p := by
  rcases q with q | ⟨a, vs, ds, rfl, rfl, h1, h2⟩
  · exact pd_dp r 50 v d p h q
  · simp only [pd] at h
    cases hp : pds (pd 49) ds with
    | none => rw [hp] at h; cases h
    | some ps =>
      rw [hp] at h; cases h
      exact .lst (SqL.of h1) (pds_dp (pd_dp r 49) hp h2)
section
variable {X : Cx} {W : WX} {b : Expr} {mb : ME} {pos p : Pos}
theorem neV_run {i : Nat} {σ : L2.St} {H : Hp} {Q : VK} (h : tG X.K X.pn W (AR X.K) (mNeV i mb) σ H Q) : tOp (rNeX X.K) (tVar i) (tG X.K X.pn W (AR X.K) mb) σ H Q := by
  obtain ⟨w, rfl, rfl, r, h⟩ := h
  unfold mNeV at h
  cases hc : cur w.s i with
  | none => simp only [hc] at h; exact h.elim
  | some d0 =>
    simp only [hc] at h
    obtain ⟨v, h1, _⟩ := slot_val r hc
    refine ⟨v, h1, ?_⟩
    refine run r h fun e s' G' y H' g r' p h' => ?_
    cases hc2 : cur s' i with
    | none => simp only [hc2] at h'; exact h'.elim
    | some d =>
      simp only [hc2] at h'
      obtain ⟨v2, h2, h3⟩ := slot_val r' hc2
      have h2 : w.σ[i]? = some (some v2) := h2
      rw [h1] at h2
      cases h2
      cases hz : fNe d e with
      | none => rw [hz] at h'; exact h'.elim
      | some z =>
        rw [hz] at h'
        unfold fNe at hz
        split at hz
        · rename_i hh
          obtain ⟨p1, hp⟩ := Option.isSome_iff_exists.mp hh.1
          obtain ⟨q1, hq⟩ := Option.isSome_iff_exists.mp hh.2
          rw [deq_pd 50 d e p1 q1 hp hq] at hz
          cases hz
          obtain ⟨a1, a2⟩ := pd_ok 50 d p1 hp
          obtain ⟨b1, b2⟩ := pd_ok 50 e q1 hq
          exact ⟨p1, q1, dp_al r' hp h3, pd_dp r' 50 y e q1 hq p, a1, b1, a2, h' _ _ _ (.refl _) r' (.bl _)⟩
        · cases hz
theorem jt_neV (i : Nat) {x : Str} (hu : X.A.units + 64 < cLine) (hb : JE X W b mb) (hN : X.N[i]? = some x := by rfl) (hv : Vis X.env.scope x := by first | exact Or.inl rfl | exact Or.inr (Or.inl rfl) | exact Or.inr (Or.inr rfl)) (hd : (x == ("__debug__" : Str)) = false := by decide) (hcd : (x == ("__classdict__" : Str)) = false := by decide) :
    JT X W (.Compare (.Name x p) [.NotEq] [b] pos) (mBl (mNeV i mb)) := by
  refine PT.imp (pt_cmpR (op_neX hu) (pv i hN hv hd hcd) hb (nomark _)) fun σ H Q h => ?_
  obtain ⟨w, rfl, rfl, r, h⟩ := h
  refine neV_run ?_
  refine run r h fun d s' G' v H' g r' p h' => ?_
  obtain ⟨k, e, q⟩ := optB_fin h' r'
  unfold isBl at e
  split at e
  · cases e
    cases p
    exact ⟨_, rfl, q⟩
  · cases e
/-- one class of error -/
def tab1 (c : Str) (b : Bool) : Str → Option Bool := fun z => if z = c then some b else none
theorem tab1_ok {c : Str} {b : Bool} {F : Str → Bool → Prop} (h : F c b) : ∀ z b', tab1 c b z = some b' → F z b' := fun z b' e => by
  unfold tab1 at e
  split at e
  · rename_i hz; cases e; subst hz; exact h
  · cases e
def blkB (N : List Str) (sc scope : Scope) (own : List (Str × Nat)) : Bool := decide (scope.kind = .function) && ((scope.names.all fun y => decide (scope.names.lookup y.1 = some y.2)) && ((own.all fun p => decide (N[p.2]? = some p.1)) && ((scope.names.all fun y => decide (y.2 ≠ .free) || (decide (sc.names.lookup y.1 = some .cell) || decide (sc.names.lookup y.1 = some .free))) &&
  (scope.names.all fun y => decide (y.2 ≠ .local ∧ y.2 ≠ .cell) || ((own.map (·.1)).contains y.1 || !N.contains y.1)))))
theorem blk_ok {scope : Scope} {own : List (Str × Nat)} (h : blkB X.N X.env.scope scope own = true) : BlkOk X.N X.env.scope scope own := by
  obtain ⟨h1, h⟩ := Bool.and_eq_true_iff.mp h
  obtain ⟨h2, h⟩ := Bool.and_eq_true_iff.mp h
  obtain ⟨h3, h⟩ := Bool.and_eq_true_iff.mp h
  obtain ⟨h4, h5⟩ := Bool.and_eq_true_iff.mp h
  rw [List.all_eq_true] at h2 h3 h4 h5
  refine ⟨of_decide_eq_true h1, fun y hy => of_decide_eq_true (h2 y hy), fun q hq => of_decide_eq_true (h3 q hq), fun y hy e => ?_, fun y hy e => ?_⟩
  · have z := h4 y hy
    rw [e] at z
    simpa using z
  · have z := h5 y hy
    rcases e with e | e <;> rw [e] at z <;> simpa using z
end
end DL

namespace DL
open PySem PySem.Spec L2
/-- the def x of the module, as the written part has it -/
def FnW (K : PySem.W.Frag) (x : Str) (st : Stmt) : Prop := ∃ fd, FunD K x x (defArgs st) (defBody st) (defScope st) [] [] (He.ga K x) fd
/-- what is known of a def: it does fn -/
def Kn (P : Program) (w : World) (K : PySem.W.Frag) (mg : Str → Option Value) (base : Heap) (x : Str) (k : Nat) (ps : List Str) (fn : Fn) : Prop := ∃ f fd, FnOk P w K mg base (L2.CX P w) k f fd ps (spF K ps.length fn) ∧ mg x = some (.ref f) ∧ PySem.W.keepIn K (.ref f) = true ∧ Binds K fd ps [] ∧ ∃ oc od osl, K.lookup f = some ⟨oc, od, .func fd, osl⟩
/-- an error class with a field -/
def XF (P : Program) (K : PySem.W.Frag) (mg : Str → Option Value) (c f : Str) : Prop := XC P K mg (He.ga K c) f ∧ XfC K (He.ga K c) ∧ ExcC K (He.ga K c) ∧ PySem.W.findIn K (.ref (He.ga K c)) f = some none ∧ True
theorem FunD.look {K : PySem.W.Frag} {x q : Str} {params : Arguments} {body : List Stmt} {scope : Scope} {dvs : List V} {kws : List (Str × V)} {f : Addr} {fd : FuncData} (F : FunD K x q params body scope dvs kws f fd) : ∃ oc od osl, K.lookup f = some ⟨oc, od, .func fd, osl⟩ := by
  obtain ⟨oc, od, dV, kV, doc, pm, an, cdv, ct, osl, _, lk, _⟩ := F.ex
  exact ⟨oc, od, osl, lk⟩
section
variable {P : Program} {w : World} {K : PySem.W.Frag} {mg : Str → Option Value} {base : Heap} {x : Str} {st : Stmt}
theorem kn_ok {N ps : List Str} {k : Nat} {m : MS} (F : FnW K x st) (hm : mg x = some (.ref (He.ga K x))) (Sc : FnScope N ps (defScope st))
    (hbn : ∀ (kV doc pm : Value) (an : Option Addr) (cdv ct : Value) (us : List Value), us.length = ps.length → bindArgs (PySem.W.fnOf x x (defArgs st) (defBody st) (defScope st) .none kV doc pm an cdv ct) ⟨us, []⟩ = pure (ps.zip us))
    (hb : ∀ (cdv : Value) (A : Around) (outer : List Env) (s : Shared) (H : Hp) (E : XK), Room k (A.deeper (PyProof.Rows.envOfC x (defScope st) s.heap.objs.size (He.ga K x) cdv)) →
      Takes (cxOf (L2.CX P w) P w K mg base N x (defScope st) (He.ga K x) cdv A outer s H E) (fun c d _ H => E c d H) → PassesOwn (model P w) (A.deeper (PyProof.Rows.envOfC x (defScope st) s.heap.objs.size (He.ga K x) cdv)) (PyProof.Rows.envOfC x (defScope st) s.heap.objs.size (He.ga K x) cdv) (cxOf (L2.CX P w) P w K mg base N x (defScope st) (He.ga K x) cdv A outer s H E).xe →
      (A.deeper (PyProof.Rows.envOfC x (defScope st) s.heap.objs.size (He.ga K x) cdv)).units + 64 < cLine → (A.deeper (PyProof.Rows.envOfC x (defScope st) s.heap.objs.size (He.ga K x) cdv)).units + 1 < cLine →
      JSs (cxOf (L2.CX P w) P w K mg base N x (defScope st) (He.ga K x) cdv A outer s H E) (fun c d _ H => E c d H) (defBody st) m) :
    Kn P w K mg base x (k + 1) ps (fnM N.length m) := by
  obtain ⟨fd, F⟩ := F
  refine ⟨He.ga K x, fd, fn_ok F Sc fun cdv A outer s H E hr => ?_, hm, F.kp, F.bindsN hbn, FunD.look F⟩
  exact hb cdv A outer s H E hr (takes_of rfl rfl rfl rfl) (passes_of (X := cxOf (L2.CX P w) P w K mg base N x (defScope st) (He.ga K x) cdv A outer s H E) rfl) (by have := hr.un; omega) (by have := hr.un; omega)
end
section
variable {X : Cx} {W : WX} {k : Nat} {ps : List Str} {fn : Fn} {x : Str} {p pos : Pos} {e : Expr} {es : List Expr} {m : MA}
theorem je_callK (C : Kn X.prog X.w X.K X.mg X.base x k ps fn) (hr : Room k X.A) (tk : Takes X W) (hg : Gl X x)
    (ha : JA X W (e :: es) m) (hl : (e :: es).length = ps.length := by rfl) (hdb : (x == ("__debug__" : Str)) = false := by decide) (he : starEach (e :: es) X.env = (false, eval e X.env) :: starEach es X.env := by rfl) (hpl : (backTo pos (starEach es X.env)).any (·.1) = false := by rfl) :
    JE X W (.Call (.Name x p) (e :: es) [] pos) (mCall fn m) := by
  obtain ⟨f, fd, F, hm, hk, hb, _⟩ := C
  exact je_call F hr tk hg hm hk hb ha hl hdb he hpl
end
end DL

namespace DL
open PySem PySem.Spec L2
/-! ### the law's own def, at the end -/
theorem law_cx {P : Program} {w : World} {K : PySem.W.Frag} {mg : Str → Option Value} {base : Heap} {k : Nat} {f : Addr} {fd : FuncData} {ps : List Str} {sp : Sp} (F : FnOk P w K mg base (L2.CX P w) k f fd ps sp) : FnOk P w K mg base (fun _ _ _ _ _ _ => False) k f fd ps (fun vs H Q _ => sp vs H Q fun _ _ _ => False) := by
  refine ⟨fun vs H Q E h => F.len vs H Q _ h, fun A outer s H args us vs Q E hr e0 hb hv h => ?_⟩
  refine codeAny_mono (F.run A outer s H args us vs Q (fun _ _ _ => False) hr e0 hb hv h) fun r s' hh => ?_
  cases r with
  | ok x => cases x <;> exact hh
  | error e =>
    obtain ⟨a, B, H', cls, d, h1, h2, h3, h4, h5, h6, h7, h8⟩ := hh
    exact h8.elim
theorem law_fd {P : Program} {w : World} {K : PySem.W.Frag} {mg : Str → Option Value} {base : Heap} {k : Nat} {fa : Addr} {fd : FuncData} {ps : List Str} {x q : Str} {params : Arguments} {body : List Stmt} {scope : Scope} {fn : Fn} (kn : Kn P w K mg base x k ps fn) (F : FunD K x q params body scope [] [] (He.ga K x) fd)
    (hm : mg x = some (.ref fa)) (hg : mg x = some (.ref (He.ga K x))) : FnOk P w K mg base (fun _ _ _ _ _ _ => False) k fa fd ps (fun vs H Q _ => spF K ps.length fn vs H Q fun _ _ _ => False) := by
  obtain ⟨f, fd', F', hm', _, _, oc', od', osl', lk'⟩ := kn
  obtain ⟨oc, od, osl, lk⟩ := FunD.look F
  have e : fa = f := by
    have z := hm.symm.trans hm'
    cases z; rfl
  have e2 : fa = He.ga K x := by
    have z := hm.symm.trans hg
    cases z; rfl
  subst e
  rw [e2, lk] at lk'
  cases lk'
  exact law_cx F'
theorem law_sp {K : PySem.W.Frag} {fn : Fn} {H : Hp} {a : Addr} {ns : List Int} (hS : SqL K H a (ns.map V.int)) (hf : ∃ st, fn [.kl (ns.map D.int)] [] = .ok (.bl true) st) : spF K 1 fn [.ref a] H (fun v _ => v = .bl true) fun _ _ _ => False := by
  obtain ⟨st, hf⟩ := hf
  refine ⟨⟨H, []⟩, [.kl (ns.map D.int)], [], rfl, ⟨fun _ _ h => h, ⟨rfl, (fun n b o h => by simp at h), (fun b h => by cases h), List.nodup_nil⟩⟩, .cons (.kl hS (ints_rep ns)) .nil, ?_⟩
  rw [hf]
  intro G' v H' _ _ p
  cases p
  rfl
end DL

namespace DL
open PySem PySem.Spec L2
/-! ### a def that calls itself: by fuel -/
def fStuck : Fn := fun _ _ => .stuck
theorem kn_stuck {P : Program} {w : World} {K : PySem.W.Frag} {mg : Str → Option Value} {base : Heap} {x : Str} {st : Stmt} {ps : List Str} {k : Nat} (F : FnW K x st) (hm : mg x = some (.ref (He.ga K x)))
    (hbn : ∀ (kV doc pm : Value) (an : Option Addr) (cdv ct : Value) (us : List Value), us.length = ps.length → bindArgs (PySem.W.fnOf x x (defArgs st) (defBody st) (defScope st) .none kV doc pm an cdv ct) ⟨us, []⟩ = pure (ps.zip us)) : Kn P w K mg base x k ps fStuck := by
  obtain ⟨fd, F⟩ := F
  refine ⟨He.ga K x, fd, ⟨fun vs H Q E h => ?_, fun A outer s H args us vs Q E hr e0 hb hv h => ?_⟩, hm, F.kp, F.bindsN hbn, FunD.look F⟩
  · obtain ⟨G, ds, st, hl, _⟩ := h
    exact hl
  · obtain ⟨G, ds, st, hl, _, _, h⟩ := h
    exact h.elim
/-! ### the truth of a slot that is only looked at -/
theorem tru_al {K : PySem.W.Frag} {pn : List (Addr × Obj)} {w : Wd} {x : V} {d : D} {b : Bool} (r : Rel K pn w) (p : AL K w x d) (h : tru d = some b) : TruV K x w.H b := by
  rcases p with p | ⟨a, vs, ds, rfl, rfl, h1, h2⟩
  · exact tru_of r p h
  · cases h
    exact .inl ⟨_, SqL.of h1, by rw [h2.empty]⟩
section
variable {X : Cx} {W : WX} {pos : Pos}
theorem jt_truthV (i : Nat) {x : Str} (hN : X.N[i]? = some x := by rfl) (hv : Vis X.env.scope x := by first | exact Or.inl rfl | exact Or.inr (Or.inl rfl) | exact Or.inr (Or.inr rfl)) (hd : (x == ("__debug__" : Str)) = false := by decide) (hcd : (x == ("__classdict__" : Str)) = false := by decide)
    (he : ∀ whole, isTrue (.Name x pos) X.env whole = (do let v ← whole; standAt (Expr.Name x pos).pos; holding [v] (truthy v)) := by intro _; rfl) : JT X W (.Name x pos) (mTru (mLook i)) := by
  refine PT.imp (pt_truth (jb_var (W := W) i hN hv hd hcd) he) fun σ H Q h => ?_
  obtain ⟨w, rfl, rfl, r, h⟩ := h
  refine run r h fun d s' G' v H' g r' p h' => ?_
  obtain ⟨k, e, q⟩ := optB_fin h' r'
  exact ⟨k, tru_al r' p e, q⟩
end
/-! ### x in xs, x not in xs for plain data -/
def rInP (K : PySem.W.Frag) (neg : Bool) : R2 := fun x y H Q => ∃ p ps, Dp K H x p ∧ (Dp K H y (.list ps) ∨ Dp K H y (.tuple ps)) ∧ p.plain = true ∧ PyData.plainAll ps = true ∧ p.depth ≤ 50 ∧ PyData.depthAll ps ≤ 50 ∧ Q (.bl (if neg then !(ps.any fun q => PyData.eqv q p) else ps.any fun q => PyData.eqv q p)) H
theorem op_inP {X : Cx} (hu : X.A.units + 64 < cLine) : OpR X (compareOp .In) (rInP X.K false) := by
  intro pins s σ H x y v u Q I rx ry h
  obtain ⟨p, ps, h1, h2, h3, h4, h5, h6, q⟩ := h
  obtain ⟨as, r1⟩ := Dp.reads I p x v h1 rx
  rcases h2 with h2 | h2
  · obtain ⟨bs, r2⟩ := Dp.reads I _ y u h2 ry
    exact SeqAt.in_list_data r2 r1 h4 h3 (by omega) ⟨.bl _, H, I, rfl, q⟩
  · obtain ⟨bs, r2⟩ := Dp.reads I _ y u h2 ry
    exact SeqAt.in_tuple_data r2 r1 h4 h3 (by omega) ⟨.bl _, H, I, rfl, q⟩
theorem op_ninP {X : Cx} (hu : X.A.units + 64 < cLine) : OpR X (compareOp .NotIn) (rInP X.K true) := by
  intro pins s σ H x y v u Q I rx ry h
  obtain ⟨p, ps, h1, h2, h3, h4, h5, h6, q⟩ := h
  obtain ⟨as, r1⟩ := Dp.reads I p x v h1 rx
  rcases h2 with h2 | h2
  · obtain ⟨bs, r2⟩ := Dp.reads I _ y u h2 ry
    exact SeqAt.notIn_list_data r2 r1 h4 h3 (by omega) ⟨.bl _, H, I, rfl, q⟩
  · obtain ⟨bs, r2⟩ := Dp.reads I _ y u h2 ry
    exact SeqAt.notIn_tuple_data r2 r1 h4 h3 (by omega) ⟨.bl _, H, I, rfl, q⟩
def seqD : D → Option (List D)
  | .tup ds => some ds
  | .lst ds => some ds
  | _ => none
def inQ (d : D) (ds : List D) : Bool := ds.any fun e => deq 50 e d == some true
def fInQ (neg : Bool) (d c : D) : Option D := match seqD c with
  | some ds => if (pd 50 d).isSome = true ∧ (pds (pd 50) ds).isSome = true then some (.bl (if neg then !inQ d ds else inQ d ds)) else none
  | none => none
theorem inQ_pd {d : D} {p : PyData} (hp : pd 50 d = some p) : ∀ {ds : List D} {ps : List PyData}, pds (pd 50) ds = some ps → inQ d ds = ps.any fun q => PyData.eqv q p
  | [], _, h => by cases h; rfl
  | e :: es, _, h => by
    obtain ⟨q, qs, h1, h2, rfl⟩ := pds_cons h
    have ih := inQ_pd hp h2
    unfold inQ at ih ⊢
    rw [List.any_cons, List.any_cons, ih, deq_pd 50 e d q p h1 hp]
    cases PyData.eqv q p <;> rfl
theorem inP_al {K : PySem.W.Frag} {pn : List (Addr × Obj)} {w : Wd} {neg : Bool} {x y : V} {d c z : D} {Q : VK} (r : Rel K pn w) (p1 : Rep K w.G x d) (p2 : AL K w y c) (hz : fInQ neg d c = some z) (k : ∀ v, Rep K w.G v z → Q v w.H) : rInP K neg x y w.H Q := by
  unfold fInQ at hz
  cases hs : seqD c with
  | none => rw [hs] at hz; cases hz
  | some ds =>
    simp only [hs] at hz
    split at hz
    · rename_i hh
      obtain ⟨p, hp⟩ := Option.isSome_iff_exists.mp hh.1
      obtain ⟨ps, hps⟩ := Option.isSome_iff_exists.mp hh.2
      cases hz
      obtain ⟨a1, a2⟩ := pd_ok 50 d p hp
      obtain ⟨b1, b2⟩ := pd_all (pd_ok 50) hps
      have hc : Dp K w.H y (.list ps) ∨ Dp K w.H y (.tuple ps) := by
        rcases p2 with p2 | ⟨a, vs, es, rfl, rfl, g1, g2⟩
        · cases p2 with
          | tup hs2 rs => cases hs; exact .inr (.tup (tqT r.ex hs2) (pds_dp (pd_dp r 50) hps rs))
          | lst hs2 rs => cases hs; exact .inl (.lst (SqL.of (r.ex _ _ hs2)) (pds_dp (pd_dp r 50) hps rs))
          | _ => cases hs
        · cases hs
          exact .inl (.lst (SqL.of g1) (pds_dp (pd_dp r 50) hps g2))
      refine ⟨p, ps, pd_dp r 50 x d p hp p1, hc, a1, b1, a2, b2, ?_⟩
      rw [← inQ_pd hp hps]
      exact k _ (.bl _)
    · cases hz
theorem k_inP {K : PySem.W.Frag} (neg : Bool) : R2Ok K (rInP K neg) (fInQ neg) := fun pn w x y d c z Q r p1 p2 hz k => inP_al r p1 (.inl p2) hz fun v p => k _ _ _ (.refl _) r p
/-- e in slot i, e not in slot i: the slot only looked at -/
def mInV (neg : Bool) (m : ME) (i : Nat) : ME := bnd m fun d s => match cur s i with
  | some c => lift (fInQ neg d c) s
  | none => .stuck
section
variable {X : Cx} {W : WX} {a : Expr} {ma : ME} {pos p : Pos}
theorem inV_run {neg : Bool} {i : Nat} {σ : L2.St} {H : Hp} {Q : VK} (h : tG X.K X.pn W (AR X.K) (mInV neg ma i) σ H Q) : tOp (rInP X.K neg) (tG X.K X.pn W (AR X.K) ma) (tVar i) σ H Q := by
  obtain ⟨w, rfl, rfl, r, h⟩ := h
  refine run r h fun d s' G' v H' g r' p h' => ?_
  cases hc : cur s' i with
  | none => simp only [hc] at h'; exact h'.elim
  | some c =>
    simp only [hc] at h'
    obtain ⟨v2, h2, h3⟩ := slot_val r' hc
    refine ⟨v2, h2, ?_⟩
    cases hz : fInQ neg d c with
    | none => rw [hz] at h'; exact h'.elim
    | some z =>
      rw [hz] at h'
      exact inP_al r' p h3 hz fun y q => h' _ _ _ (.refl _) r' q
theorem jt_inV (i : Nat) {x : Str} (hu : X.A.units + 64 < cLine) (ha : JE X W a ma) (hN : X.N[i]? = some x := by rfl) (hv : Vis X.env.scope x := by first | exact Or.inl rfl | exact Or.inr (Or.inl rfl) | exact Or.inr (Or.inr rfl)) (hd : (x == ("__debug__" : Str)) = false := by decide) (hcd : (x == ("__classdict__" : Str)) = false := by decide) (hm : behindInMarks .In (.Name x p) = false := by rfl) :
    JT X W (.Compare a [.In] [.Name x p] pos) (mBl (mInV false ma i)) := by
  refine PT.imp (pt_cmpR (op_inP hu) ha (pv i hN hv hd hcd) hm) fun σ H Q h => ?_
  obtain ⟨w, rfl, rfl, r, h⟩ := h
  refine inV_run ?_
  refine run r h fun d s' G' v H' g r' p h' => ?_
  obtain ⟨k, e, q⟩ := optB_fin h' r'
  unfold isBl at e
  split at e
  · cases e; cases p; exact ⟨_, rfl, q⟩
  · cases e
theorem jt_ninV (i : Nat) {x : Str} (hu : X.A.units + 64 < cLine) (ha : JE X W a ma) (hN : X.N[i]? = some x := by rfl) (hv : Vis X.env.scope x := by first | exact Or.inl rfl | exact Or.inr (Or.inl rfl) | exact Or.inr (Or.inr rfl)) (hd : (x == ("__debug__" : Str)) = false := by decide) (hcd : (x == ("__classdict__" : Str)) = false := by decide) (hm : behindInMarks .NotIn (.Name x p) = false := by rfl) :
    JT X W (.Compare a [.NotIn] [.Name x p] pos) (mBl (mInV true ma i)) := by
  refine PT.imp (pt_cmpR (op_ninP hu) ha (pv i hN hv hd hcd) hm) fun σ H Q h => ?_
  obtain ⟨w, rfl, rfl, r, h⟩ := h
  refine inV_run ?_
  refine run r h fun d s' G' v H' g r' p h' => ?_
  obtain ⟨k, e, q⟩ := optB_fin h' r'
  unfold isBl at e
  split at e
  · cases e; cases p; exact ⟨_, rfl, q⟩
  · cases e
theorem je_inV (i : Nat) {x : Str} (hu : X.A.units + 64 < cLine) (ha : JE X W a ma) (hN : X.N[i]? = some x := by rfl) (hv : Vis X.env.scope x := by first | exact Or.inl rfl | exact Or.inr (Or.inl rfl) | exact Or.inr (Or.inr rfl)) (hd : (x == ("__debug__" : Str)) = false := by decide) (hcd : (x == ("__classdict__" : Str)) = false := by decide) (hm : behindInMarks .In (.Name x p) = false := by rfl) :
    JE X W (.Compare a [.In] [.Name x p] pos) (mInV false ma i) := PE.imp (pe_cmpR (op_inP hu) ha (pv i hN hv hd hcd) hm) fun _ _ _ h => inV_run h
end
end DL

namespace DL
open PySem PySem.Spec PyProof.Rows L2
/-! ### {t: v}, t a tuple of ints and texts -/
def tDisp1T (tk tv : TE) : TE := fun σ H Q => ∀ p, H p = none → tPairs [(tk, tv)] σ (upd H p (.dT [])) fun ps H2 => H2 p = some (.dT []) ∧ ∃ (b : Addr) (k : List Key) (v : V), ps = [(.ref b, v)] ∧ H2 b = some (.tup (k.map kV)) ∧ Q (.ref p) (upd H2 p (.dT [(k, v)]))
theorem pe_disp1T {X : Cx} {ke ve : Expr} {tk tv : TE} {pos : Pos} (hu : X.A.units < cLine) (hk : PE X ke tk) (hv : PE X ve tv) : PE X (.Dict [some ke] [ve] pos) (tDisp1T tk tv) := by
  refine ⟨fun pins s σ H Q I q => ?_⟩
  have hn := I.hok.fresh (Nat.le_refl s.heap.objs.size)
  have I1 := I.laid (a := s.heap.objs.size) (o := .dT []) (h' := s.heap.push { cls := .type "dict", data := .dict #[] }) (t' := s.toks) (fun _ _ z => Heap.get?_push_of_some _ z) (Nat.le_refl _) (dt_empty s.heap I.big)
  rw [arm_eval_Dict, zip_pairTrees [some ke] [ve] X.env pos rfl rfl, dictDisplay_pairs (pairTrees [some ke] [ve] X.env pos) (by intro z; cases z) (by show 1 < _; decide)]
  refine wpAny_bind (wpAny_standAt (wpAny_bind (wpAny_subDictH (knd := tupleKind (mixKind X.prog X.w)) (Q := fun d s' => wpAny (model X.prog X.w) X.A (pure (Value.ref d)) (EP X pins σ Q) X.xe s') hu (by show 1 ≤ 15; decide) ?_)))
  refine thn ((pps_cons hk hv pps_nil).run pins _ σ _ _ I1 (q _ hn)) fun ws s2 hh => ?_
  obtain ⟨ps, H2, I2, rel, e, b, k, v, ex, eb, q2⟩ := hh
  subst ex
  cases rel with
  | cons r0 rr =>
    cases rr
    rename_i w0
    obtain ⟨u1, u2⟩ := w0
    obtain ⟨ra, rb⟩ := r0
    cases (show u1 = Value.ref b from ra)
    obtain ⟨z, hd, xs, kt, dd⟩ := dt_of I2.hok e
    cases kt
    refine ⟨[(k, b, u2)], ⟨rfl, rfl, key_of I2.hok eb, trivial⟩, dd, fun h' tk2 dd' hs => wpAny_pure ?_⟩
    obtain ⟨q1, es, ep, hq, g2, g3, g4, _, g5⟩ := dd'
    refine ⟨.ref s.heap.objs.size, _, d_write (ob := .dT [(k, v)]) I2 (by rw [e]; exact True.intro) hs ⟨q1, hq⟩ ⟨by show 1 ≤ sizeLine; rw [sizeLine_eq]; decide, hd, [(k, b, u2)], .cons ⟨rfl, ?_, rb⟩ .nil, q1, es, ep, hq, g2, g3, g4, g5⟩, rfl, q2⟩
    rw [upd_ne (ne_of eb e (fun z => nomatch z))]
    exact eb
end DL

namespace DL
open PySem PySem.Spec L2
/-! ### keys that are tuples of ints and texts -/
def key1 : D → Option Key
  | .int i => some (.inl i)
  | .str x => some (.inr x)
  | _ => none
def keyL : List D → Option (List Key)
  | [] => some []
  | d :: ds => match key1 d, keyL ds with
    | some k, some ks => some (k :: ks)
    | _, _ => none
def keyD : D → Option (List Key)
  | .tup ds => keyL ds
  | _ => none
theorem keyL_v {K : PySem.W.Frag} {G : Gh} : ∀ {vs : List V} {ds : List D} {ks : List Key}, Reps K G vs ds → keyL ds = some ks → vs = ks.map kV
  | _, _, _, .nil, h => by cases h; rfl
  | _, _, ks, .cons (d := d) (ds := ds) p r, h => by
    unfold keyL at h
    cases h1 : key1 d with
    | none => rw [h1] at h; cases h
    | some k =>
      cases h2 : keyL ds with
      | none => rw [h1, h2] at h; cases h
      | some ks2 =>
        rw [h1, h2] at h
        cases h
        rw [keyL_v r h2]
        cases p <;> cases h1 <;> rfl
theorem key_v {K : PySem.W.Frag} {pn : List (Addr × Obj)} {w : Wd} {v : V} {d : D} {k : List Key} (r : Rel K pn w) (p : Rep K w.G v d) (h : keyD d = some k) : ∃ b, v = .ref b ∧ w.H b = some (.tup (k.map kV)) := by
  cases p with
  | tup hs rs =>
    have e := keyL_v rs h
    subst e
    exact ⟨_, rfl, r.ex _ _ hs⟩
  | _ => cases h
/-- d[t] = v -/
def mPutT (m mk mv : ME) : MS := bnd mv fun z => bnd m fun d => bnd mk fun t s => match d, keyD t with
  | .loc n, some k => (match s.st[n]? with
    | some (.dtt kvs) => if kvs.length < 1000 then .ok .nx { s with st := s.st.set n (.dtt (putD kvs k z)) } else .stuck
    | _ => .stuck)
  | _, _ => .stuck
section
variable {X : Cx} {W : WX} {o i v ke ve : Expr} {m mk mv : ME} {pos pos' : Pos}
theorem js_putT (hu : X.A.units + 1 < cLine) (ho : JE X W o m) (hi : JE X W i mk) (hv : JE X W v mv) (hs : swapsWith v (some (.Subscript o i pos')) pos.line X.env = pure false := by rfl) : JS X W (.Assign [.Subscript o i pos'] v pos) (mPutT m mk mv) := by
  refine PS.imp (ps_dput hu ho hi hv hs) fun D σ H h => ?_
  obtain ⟨w, rfl, rfl, r, h⟩ := h
  refine runS r h fun z s1 G1 y1 H1 g1 r1 p1 h1 => ?_
  refine runS r1 h1 fun d s2 G2 y2 H2 g2 r2 p2 h2 => ?_
  refine runS r2 h2 fun t s' G' y H' g r' p h' => ?_
  split at h'
  · rename_i n k hk
    split at h'
    · rename_i kvs hn
      split at h'
      · rename_i hl
        cases p2 with
        | loc ha0 =>
          have ha := g.d _ _ ha0
          obtain ⟨vs, e1, e2⟩ := r'.st.at_ n _ _ ha hn
          obtain ⟨b, rfl, hb⟩ := key_v r' p hk
          refine ⟨_, _, rfl, DPut.t e1 hb (by rw [kv_len e2, sizeLine_eq]; omega), ?_⟩
          exact h' _ _ _ (.refl _) (r'.cell ha fun H2 hH => ⟨_, hH, kv_put e2 (p1.mono (g2.trans g))⟩)
      · exact h'.elim
    · exact h'.elim
  · exact h'.elim
end
end DL

namespace DL
open PySem PySem.Spec L2
/-- {t: v}, a new cell -/
def mDict1T (mk mv : ME) : ME := bnd mk fun t => bnd mv fun z s => match keyD t with
  | some k => .ok (.loc s.st.length) { s with st := s.st ++ [.dtt [(k, z)]] }
  | none => .stuck
/-- a mirror's end, with a thing more under way -/
theorem okG.more {α β : Type} {K : PySem.W.Frag} {pn : List (Addr × Obj)} {W : WX} {A : Wd → β → α → Prop} {w : Wd} {Q : β → Hp → Prop} {x : Exc} {s' : S} {q : Addr × HO} {H2 : Hp} (h : okG K pn W A w Q (.exc x s')) {A2 : Wd → β → α → Prop} {Q2 : β → Hp → Prop} : okG K pn W A2 { w with H := H2, pr := q :: w.pr } Q2 (.exc x s') := fun G' c d H' g r' hx => h G' c d H' g ⟨r'.ex, r'.le, r'.st, r'.sl, fun z hz => r'.pr z (List.mem_cons_of_mem _ hz)⟩ hx
section
variable {X : Cx} {W : WX} {ke ve : Expr} {mk mv : ME} {pos : Pos}
theorem je_dict1T (hu : X.A.units < cLine) (hk : JE X W ke mk) (hv : JE X W ve mv) : JE X W (.Dict [some ke] [ve] pos) (mDict1T mk mv) := by
  refine PE.imp (pe_disp1T hu hk hv) fun σ H Q h => ?_
  obtain ⟨w, rfl, rfl, r, h⟩ := h
  intro p hp
  have np := r.noP hp
  have r1 := r.prPush (o := .dT []) hp
  refine ⟨{ w with H := upd w.H p (.dT []), pr := (p, .dT []) :: w.pr }, rfl, rfl, r1, ?_⟩
  have h : okG X.K X.pn W (AR X.K) w Q (bnd mk (fun t => bnd mv fun z s => match keyD t with
    | some k => .ok (.loc s.st.length) { s with st := s.st ++ [.dtt [(k, z)]] }
    | none => .stuck) w.s) := h
  unfold bnd at h
  show okG X.K X.pn W _ _ _ (mk w.s)
  cases hm : mk w.s with
  | stuck => rw [hm] at h; exact h
  | exc y s2 => rw [hm] at h; exact okG.more h
  | ok t s2 =>
    rw [hm] at h
    dsimp only at h
    intro G1 x H1 g1 r2 p1
    refine ⟨{ w with G := G1, H := H1, s := s2, pr := (p, .dT []) :: w.pr }, rfl, rfl, r2, ?_⟩
    show okG X.K X.pn W _ _ _ (mv s2)
    cases hm2 : mv s2 with
    | stuck => rw [hm2] at h; exact h
    | exc y s3 =>
      rw [hm2] at h
      intro G' c d H' g r' hx
      exact h G' c d H' (g1.trans g) ⟨r'.ex, r'.le, r'.st, r'.sl, fun z hz => r'.pr z (List.mem_cons_of_mem _ hz)⟩ hx
    | ok z s3 =>
      rw [hm2] at h
      dsimp only at h
      intro G2 v H2 g2 r3 p2
      cases hk2 : keyD t with
      | none => rw [hk2] at h; exact h.elim
      | some k =>
        rw [hk2] at h
        obtain ⟨q1, q2, q3, q4, q5⟩ := r3.pr (p, .dT []) List.mem_cons_self
        obtain ⟨b, rfl, hb⟩ := key_v r3 (p1.mono g2) hk2
        refine ⟨q1, b, k, v, rfl, hb, ?_⟩
        obtain ⟨g3, r4, q6⟩ := Rel.mkCell (w := { w with G := G2, H := H2, s := s3, pr := (p, .dT []) :: w.pr }) (o := .dtt [(k, z)]) (u := .dT [(k, v)]) (l := w.pr) r3 q2 q3.1 q4 q5 (fun q hq => ⟨List.mem_cons_of_mem _ hq, np q hq⟩) (fun G3 H3 g3 hH => ⟨_, hH, .cons ⟨rfl, p2.mono g3⟩ .nil⟩)
        exact h _ _ _ ((g1.trans g2).trans g3) r4 q6
end
end DL

namespace DL
open PySem PySem.Spec L2
/-! ### t in d, t not in d: d a cell whose keys are tuples -/
theorem kv_has {κ : Type} [DecidableEq κ] {K : PySem.W.Frag} {G : Gh} {k : κ} : ∀ {vs : List (κ × V)} {kvs : List (κ × D)}, KvRel K G vs kvs → (valV vs k).isSome = (valD kvs k).isSome
  | _, _, .nil => rfl
  | _, _, .cons (a := p) (b := q) e r => by
    unfold valD valV
    rw [List.find?_cons, List.find?_cons, e.1]
    by_cases c : q.1 = k
    · simp only [c, decide_true]; rfl
    · simp only [c, decide_false]
      exact kv_has r
def hasT (neg : Bool) (t d : D) (s : S) : Option Bool := match d, keyD t with
  | .loc n, some k => (match s.st[n]? with
    | some (.dtt kvs) => some (if neg then !(valD kvs k).isSome else (valD kvs k).isSome)
    | _ => none)
  | _, _ => none
def mHas (neg : Bool) (ma mb : ME) : ME := bnd ma fun t => bnd mb fun d s => match hasT neg t d s with
  | some b => .ok (.bl b) s
  | none => .stuck
theorem has_run {K : PySem.W.Frag} {pn : List (Addr × Obj)} {w : Wd} {neg b : Bool} {y x : V} {t d : D} (r : Rel K pn w) (p1 : Rep K w.G y t) (p2 : Rep K w.G x d) (h : hasT neg t d w.s = some b) : ∃ a o, x = .ref a ∧ DGet w.H a y o ∧ b = if neg then !o.isSome else o.isSome := by
  unfold hasT at h
  split at h
  · rename_i n k hk
    split at h
    · rename_i kvs hn
      cases h
      cases p2 with
      | loc ha =>
        obtain ⟨vs, e1, e2⟩ := r.st.at_ n _ _ ha hn
        obtain ⟨c, rfl, hc⟩ := key_v r p1 hk
        exact ⟨_, _, rfl, DGet.t e1 hc, by rw [kv_has e2]⟩
    · cases h
  · cases h
section
variable {X : Cx} {W : WX} {a b : Expr} {ma mb : ME} {pos : Pos}
theorem hasI_run {σ : L2.St} {H : Hp} {Q : VK} (h : tG X.K X.pn W (AR X.K) (mHas false ma mb) σ H Q) : tDIn (tG X.K X.pn W (AR X.K) ma) (tG X.K X.pn W (AR X.K) mb) σ H Q := by
  obtain ⟨w, rfl, rfl, r, h⟩ := h
  refine run r h fun t s1 G1 y H1 g1 r1 p1 h1 => ?_
  refine run r1 h1 fun d s2 G2 x H2 g2 r2 p2 h2 => ?_
  cases hh : hasT false t d s2 with
  | none => rw [hh] at h2; exact h2.elim
  | some k =>
    rw [hh] at h2
    obtain ⟨c, o, e1, e2, e3⟩ := has_run r2 (p1.mono g2) p2 hh
    exact ⟨c, o, e1, e2, by rw [show o.isSome = k from e3.symm]; exact h2 _ _ _ (.refl _) r2 (.bl _)⟩
theorem hasN_run {σ : L2.St} {H : Hp} {Q : VK} (h : tG X.K X.pn W (AR X.K) (mHas true ma mb) σ H Q) : tDNotIn (tG X.K X.pn W (AR X.K) ma) (tG X.K X.pn W (AR X.K) mb) σ H Q := by
  obtain ⟨w, rfl, rfl, r, h⟩ := h
  refine run r h fun t s1 G1 y H1 g1 r1 p1 h1 => ?_
  refine run r1 h1 fun d s2 G2 x H2 g2 r2 p2 h2 => ?_
  cases hh : hasT true t d s2 with
  | none => rw [hh] at h2; exact h2.elim
  | some k =>
    rw [hh] at h2
    obtain ⟨c, o, e1, e2, e3⟩ := has_run r2 (p1.mono g2) p2 hh
    exact ⟨c, o, e1, e2, by rw [show (!o.isSome) = k from e3.symm]; exact h2 _ _ _ (.refl _) r2 (.bl _)⟩
theorem je_hasI (hu : X.A.units + 1 < cLine) (ha : JE X W a ma) (hb : JE X W b mb) (hm : behindInMarks .In b = false := by rfl) : JE X W (.Compare a [.In] [b] pos) (mHas false ma mb) := PE.imp (pe_cmp (pc_din hu ha hb) hm) fun _ _ _ h => hasI_run h
theorem je_hasN (hu : X.A.units + 1 < cLine) (ha : JE X W a ma) (hb : JE X W b mb) (hm : behindInMarks .NotIn b = false := by rfl) : JE X W (.Compare a [.NotIn] [b] pos) (mHas true ma mb) := PE.imp (pe_cmp (pc_dnotin hu ha hb) hm) fun _ _ _ h => hasN_run h
theorem jt_hasI (hu : X.A.units + 1 < cLine) (ha : JE X W a ma) (hb : JE X W b mb) (hm : behindInMarks .In b = false := by rfl) : JT X W (.Compare a [.In] [b] pos) (mBl (mHas false ma mb)) := by
  refine PT.imp (pt_cmp (pc_din hu ha hb) hm) fun σ H Q h => ?_
  obtain ⟨w, rfl, rfl, r, h⟩ := h
  refine hasI_run ?_
  refine run r h fun d s' G' v H' g r' p h' => ?_
  obtain ⟨k, e, q⟩ := optB_fin h' r'
  unfold isBl at e
  split at e
  · cases e; cases p; exact ⟨_, rfl, q⟩
  · cases e
theorem jt_hasN (hu : X.A.units + 1 < cLine) (ha : JE X W a ma) (hb : JE X W b mb) (hm : behindInMarks .NotIn b = false := by rfl) : JT X W (.Compare a [.NotIn] [b] pos) (mBl (mHas true ma mb)) := by
  refine PT.imp (pt_cmp (pc_dnotin hu ha hb) hm) fun σ H Q h => ?_
  obtain ⟨w, rfl, rfl, r, h⟩ := h
  refine hasN_run ?_
  refine run r h fun d s' G' v H' g r' p h' => ?_
  obtain ⟨k, e, q⟩ := optB_fin h' r'
  unfold isBl at e
  split at e
  · cases e; cases p; exact ⟨_, rfl, q⟩
  · cases e
end
end DL

namespace DL
open PySem PySem.Spec L2
/-! ### a tracked tuple may be frozen late -/
theorem Rel.lateT {K : PySem.W.Frag} {pn : List (Addr × Obj)} {w : Wd} (r : Rel K pn w) {b : Addr} {vs : List V} (hb : w.H b = some (.tup vs)) : ∃ G', w.G.le G' ∧ Rel K pn { w with G := G' } ∧ G'.F b = some (.tup vs) := by
  cases hF : w.G.F b with
  | some o =>
    have e := r.ex b o hF
    rw [hb] at e
    cases e
    exact ⟨w.G, .refl _, r, hF⟩
  | none =>
    have na : b ∉ w.G.ad := fun m => by
      obtain ⟨n, hn⟩ := List.mem_iff_getElem?.mp m
      obtain ⟨hl, _⟩ := List.getElem?_eq_some_iff.mp hn
      have hl2 : n < w.s.st.length := by rw [← r.st.len]; exact hl
      have ob := r.st.at_ n b w.s.st[n] hn (List.getElem?_eq_getElem hl2)
      cases hst : w.s.st[n] with
      | dct kvs => rw [hst] at ob; obtain ⟨_, q, _⟩ := ob; rw [hb] at q; cases q
      | dtt kvs => rw [hst] at ob; obtain ⟨_, q, _⟩ := ob; rw [hb] at q; cases q
      | ins c fs => rw [hst] at ob; obtain ⟨_, _, q, _⟩ := ob; rw [hb] at q; cases q
    have na0 : b ∉ w.G0.ad := fun m => by
      obtain ⟨n, hn⟩ := List.mem_iff_getElem?.mp m
      exact na (List.mem_of_getElem? (r.le.g.d n b hn))
    have g := gle_upd (o := .tup vs) hF
    refine ⟨_, g, ⟨fun a u h => ?_, ⟨r.le.g.trans g, r.le.nw, fun a u h => ?_, r.le.kp, r.le.dm⟩, ⟨r.st.len, fun n a u h1 h2 => (r.st.at_ n a u h1 h2).mono g fun _ q => q, fun a h => ?_, r.st.nd⟩, ⟨r.sl.len, fun i d h => ?_, fun i ds h => ?_, r.sl.dis, fun i x h => ?_⟩, fun q hq => ?_⟩, upd_same⟩
    · rcases upd_get h with ⟨e, z⟩ | ⟨e, z⟩
      · rw [e, z]; exact hb
      · exact r.ex a u z
    · rcases upd_get h with ⟨e, z⟩ | ⟨e, z⟩
      · subst e; subst z
        refine .inr (.inr ⟨vs, rfl, na0, fun o' ho => ?_⟩)
        have := r.le.kp _ o' ho na0
        rw [hb] at this
        exact (Option.some.inj this).symm
      · exact r.le.fz a u z
    · exact (upd_ne (show a ≠ b from fun e => na (e ▸ h))).trans (r.st.nof a h)
    · obtain ⟨v, h1, h2⟩ := r.sl.imm i d h
      exact ⟨v, h1, h2.mono g⟩
    · obtain ⟨a, us, h1, h2, h3, h4, h5⟩ := r.sl.own i ds h
      refine ⟨a, us, h1, h2, h3.mono g, ?_, h5⟩
      exact (upd_ne (show a ≠ b from fun e => by rw [e, hb] at h2; cases h2)).trans h4
    · obtain ⟨a, oe, tl, cls, d, h1, h2, h3, h4⟩ := r.sl.xn i x h
      exact ⟨a, oe, tl, cls, d, h1, h2, h3, h4.mono g⟩
    · obtain ⟨p1, p2, p3, p4⟩ := r.pr q hq
      refine ⟨p1, (upd_ne (show q.1 ≠ b from fun e => ?_)).trans p2, p3, p4⟩
      rw [e, hb] at p1
      have e2 := p3.2
      rw [← Option.some.inj p1] at e2
      cases e2
def kD : Key → D
  | .inl i => .int i
  | .inr x => .str x
theorem kD_reps {K : PySem.W.Frag} {G : Gh} : ∀ k : List Key, Reps K G (k.map kV) (k.map kD)
  | [] => .nil
  | .inl i :: r => .cons (.int i) (kD_reps r)
  | .inr x :: r => .cons (.str x) (kD_reps r)
end DL

namespace DL
open PySem PySem.Spec PyProof.Rows L2
/-! ### the truth of a dict whose keys are tuples -/
theorem tru_dictH {prog : Program} {w : World} {κ : Type} [DecidableEq κ] {knd : HeapKind prog w κ} {A : Around} {E : Value → Shared → Prop} {s : Shared} {a : Addr} {es : List (κ × Addr × Value)} {Q : Bool → Shared → Prop} (ha : (a == sysModules) = false) (hm : s.heap.DictOfH knd a es) (hf : (es.length : Int) < 2 ^ 63)
    (h : Q (!es.isEmpty) { s with toks := s.toks + 1 + 1 }) : wpAny (model prog w) A (truthy (.ref a)) Q E s := by
  have ne : ((es.length : Int) != 0) = !es.isEmpty := by cases es <;> simp <;> omega
  have lenRun : wpAny (model prog w) A (runValue (.builtin "len" ⟨[.ref a], []⟩)) (fun u z => u = .int es.length (s.toks + 1) ∧ Q (!es.isEmpty) z) E s := by
    refine wpAny_runValue (codeAny_builtin entry_len ?_)
    rw [Around.under_plainId plain_len _]
    refine wpAny_mono (wpAny_len_body_dictH (Q := fun u z => u = .int es.length (s.toks + 1) ∧ Q (!es.isEmpty) z) ha hm hf ⟨rfl, h⟩) (fun fin z hz => ?_) fun _ _ e => e
    obtain ⟨u, rfl, hq⟩ := hz
    exact hq
  unfold truthy
  first
    | (refine wpAny_bind (wpAny_callSpecial?_none (name := Str.ofString "__bool__") hm.typeIs noBool_dict ?_))
    | (refine wpAny_bind (wpAny_pure (wpAny_bind (wpAny_callSpecial?_none (name := Str.ofString "__bool__") hm.typeIs noBool_dict ?_))))
  first
    | (refine wpAny_bind (wpAny_specialOf (name := Str.ofString "__len__") hm.typeIs F.slot_dict_len.lookup ?_))
    | (refine wpAny_bind (wpAny_pure (wpAny_bind (wpAny_specialOf (name := Str.ofString "__len__") hm.typeIs F.slot_dict_len.lookup ?_))))
  first
    | exact wpAny_bind (wpAny_mono lenRun (fun u z hz => by obtain ⟨rfl, hq⟩ := hz; exact wpAny_pure (ne ▸ hq)) (fun _ _ e => e))
    | exact wpAny_bind (wpAny_pure (wpAny_bind (wpAny_mono lenRun (fun u z hz => by obtain ⟨rfl, hq⟩ := hz; exact wpAny_pure (ne ▸ hq)) (fun _ _ e => e))))
/-- truth, also of such a dict -/
def TruT (K : PySem.W.Frag) (x : V) (H : Hp) (k : Bool) : Prop := TruV K x H k ∨ ∃ p kvs, x = .ref p ∧ H p = some (.dT kvs) ∧ k = !kvs.isEmpty
theorem truT_ok {X : Cx} : TruR X (fun x H Q => ∃ k, TruT X.K x H k ∧ Q k H) := by
  intro pins s σ H x v Q I rx h
  obtain ⟨k, e, q⟩ := h
  rcases e with e | ⟨p, kvs, rfl, hp, rfl⟩
  · exact tru_ok pins s σ H x v Q I rx ⟨k, e, q⟩
  · cases rx
    obtain ⟨z, hd, xs, rel, dd⟩ := dt_of I.hok hp
    have hl : kvs.length = xs.length := Paired.length rel
    have hs : sizeLine = 16777216 := sizeLine_eq
    have he : (!xs.isEmpty) = !kvs.isEmpty := by cases kvs <;> cases xs <;> first | rfl | simp at hl
    exact tru_dictH hd dd (by omega) ⟨H, I.tok _, by rw [he]; exact q⟩
section
variable {X : Cx} {W : WX} {pos : Pos}
theorem pt_truthT {a : Expr} {ta : TE} (ha : PE X a ta) (he : ∀ whole, isTrue a X.env whole = (do let v ← whole; standAt a.pos; holding [v] (truthy v))) : PT X a (fun σ H Q => ta σ H fun x H' => ∃ k, TruT X.K x H' k ∧ Q k H') := by
  refine ⟨fun pins s σ H Q I h => isTrue_plain (thn (ha.run pins s σ H _ I h) fun v s1 hh => ?_) (he _)⟩
  obtain ⟨x, H1, I1, r1, q1⟩ := hh
  exact truT_ok pins s1 σ H1 x v Q I1 r1 q1
def truS (s : S) : D → Option Bool
  | .loc n => (match s.st[n]? with
    | some (.dtt kvs) => some (!kvs.isEmpty)
    | some (.dct kvs) => some (!kvs.isEmpty)
    | _ => none)
  | d => tru d
def mTruN (i : Nat) : MT := bnd (mLook i) fun d s => optB (truS s d) s
theorem kv_empty {κ : Type} {K : PySem.W.Frag} {G : Gh} {vs : List (κ × V)} {kvs : List (κ × D)} (h : KvRel K G vs kvs) : (!kvs.isEmpty) = !vs.isEmpty := by
  cases h <;> rfl
theorem truS_al {K : PySem.W.Frag} {pn : List (Addr × Obj)} {w : Wd} {x : V} {d : D} {b : Bool} (r : Rel K pn w) (p : AL K w x d) (h : truS w.s d = some b) : TruT K x w.H b := by
  unfold truS at h
  split at h
  · rename_i n
    have p := p.rep (fun _ => by simp)
    cases p with
    | loc ha =>
      split at h
      · rename_i kvs hn
        cases h
        obtain ⟨vs, e1, e2⟩ := r.st.at_ n _ _ ha hn
        exact .inr ⟨_, vs, rfl, e1, kv_empty e2⟩
      · rename_i kvs hn
        cases h
        obtain ⟨vs, e1, e2⟩ := r.st.at_ n _ _ ha hn
        exact .inl (.inr (.inr ⟨vs, e1, kv_empty e2⟩))
      · cases h
  · exact .inl (tru_al r p h)
/-- the truth of a name -/
theorem jt_truthN (i : Nat) {x : Str} (hN : X.N[i]? = some x := by rfl) (hv : Vis X.env.scope x := by first | exact Or.inl rfl | exact Or.inr (Or.inl rfl) | exact Or.inr (Or.inr rfl)) (hd : (x == ("__debug__" : Str)) = false := by decide) (hcd : (x == ("__classdict__" : Str)) = false := by decide)
    (he : ∀ whole, isTrue (.Name x pos) X.env whole = (do let v ← whole; standAt (Expr.Name x pos).pos; holding [v] (truthy v)) := by intro _; rfl) : JT X W (.Name x pos) (mTruN i) := by
  refine PT.imp (pt_truthT (jb_var (W := W) i hN hv hd hcd) he) fun σ H Q h => ?_
  obtain ⟨w, rfl, rfl, r, h⟩ := h
  refine run r h fun d s' G' v H' g r' p h' => ?_
  obtain ⟨k, e, q⟩ := optB_fin h' r'
  exact ⟨k, truS_al r' p e, q⟩
/-! ### list(d) -/
theorem Rel.lates {K : PySem.W.Frag} {pn : List (Addr × Obj)} : ∀ {kvs : List (List Key × V)} {bs : List Addr} {w : Wd}, Rel K pn w → IsKeys w.H kvs bs → ∃ G', w.G.le G' ∧ Rel K pn { w with G := G' } ∧ Reps K G' (bs.map V.ref) (kvs.map fun p => .tup (p.1.map kD))
  | _, _, w, r, .nil => ⟨w.G, .refl _, r, .nil⟩
  | _, _, w, r, .cons h t => by
    obtain ⟨G1, g1, r1, f1⟩ := r.lateT h
    obtain ⟨G2, g2, r2, p2⟩ := Rel.lates (w := { w with G := G1 }) r1 t
    exact ⟨G2, g1.trans g2, r2, .cons (.tup (g2.f _ _ f1) (kD_reps _)) p2⟩
def listS (s : S) : D → Option (List D)
  | .loc n => (match s.st[n]? with
    | some (.dtt kvs) => some (kvs.map fun p => .tup (p.1.map kD))
    | _ => none)
  | d => itD d
def mListS (m : ME) : MA := bnd m fun d s => match listS s d with
  | some z => .ok z s
  | none => .stuck
theorem kv_keys {κ : Type} {K : PySem.W.Frag} {G : Gh} {f : κ → D} : ∀ {vs : List (κ × V)} {kvs : List (κ × D)}, KvRel K G vs kvs → vs.map (fun p => f p.1) = kvs.map fun p => f p.1
  | _, _, .nil => rfl
  | _, _, .cons h t => by rw [List.map_cons, List.map_cons, h.1, kv_keys t]
theorem jf_listS {x : Str} {e : Expr} {m : ME} {p : Pos} (hcalm : X.calm = true) (hg : Gl X x) (hm : X.mg x = none) (hv : bootBuiltins x = some (.type "list")) (h : JB X W e m) (hn : x ≠ "__name__" := by decide) (hdb : (x == ("__debug__" : Str)) = false := by decide)
    (hs : starEach [e] X.env = (false, eval e X.env) :: starEach [] X.env := by rfl) (h1 : starEach [e] X.env = (false, eval e X.env) :: starEach [] X.env := by rfl) (h2 : (backTo pos (starEach [] X.env)).any (·.1) = false := by rfl) :
    JF X W (.Call (.Name x p) [e] [] pos) (mListS m) := by
  refine PE.imp (pe_callTy ((call_list_of (X := X)).or (call_list_dT hcalm)) hg hm hv (pa_cons h pa_nil hs) hn hdb h1 h2) fun σ H Q h => ?_
  obtain ⟨w, rfl, rfl, r0, h⟩ := h
  refine run r0 h fun d s' G' v H' g r' p h' => ?_
  cases hz : listS s' d with
  | none => rw [hz] at h'; exact h'.elim
  | some z =>
    rw [hz] at h'
    unfold listS at hz
    split at hz
    · rename_i n
      split at hz
      · rename_i kvs hk
        cases hz
        have p := p.rep (fun _ => by simp)
        cases p with
        | loc ha =>
          obtain ⟨vs, e1, e2⟩ := r'.st.at_ n _ _ ha hk
          refine .inr ⟨_, vs, rfl, .inl e1, fun q bs hq hb => ?_⟩
          obtain ⟨G2, g2, r2, p2⟩ := r'.lates hb
          rw [kv_keys (f := fun k => D.tup (k.map kD)) e2] at p2
          exact h' G2 _ _ g2 (Rel.alloc (w := { w with G := G2, H := H', s := s' }) r2 hq) (AF.new (w := { w with G := G2, H := H', s := s' }) r2 hq p2)
      · cases hz
    · exact .inl (k_list X.pn _ v d z Q r' p hz fun G3 y H3 g3 r3 p3 => h' G3 y H3 g3 r3 p3)
end
/-! ### tuple * int -/
theorem tmul1 (l : Addr) (items : Array Value) (n : Nat) (dd : Option Addr) (sl : Array (Option Value)) (u : Tok) :
    Meets (Builtin.«tuple.__mul__» ⟨[.ref l, .int 1 u], []⟩) (fun _ R s => s.heap.get? l = some { cls := .type "tuple", dict := dd, data := .seq items n, slots := sl } ∧ R (.ok (.ret (Value.ref l))) s) :=
  .of_wp fun prog w A R s h => by
    obtain ⟨hp, g, d, tk, os⟩ := s
    obtain ⟨hl, h⟩ := h
    have f1 := AutoSeq1.idx_int
    have c1 : (items.isEmpty || (1 : Int) == 1) = true := by simp
    wp_walk using wpAny_loadPart' hl
    repeat (first
      | (refine wpAny_ite_true (decide_eq_true c1) ?_; wp_walk using wpAny_loadPart' hl)
      | (refine wpAny_ite_true ?_ ?_; · simp; wp_walk using wpAny_loadPart' hl))
    all_goals exact ⟨_, rfl, h⟩
theorem tmul0 (l : Addr) (items : Array Value) (n : Nat) (dd : Option Addr) (sl : Array (Option Value)) (x : Int) (u : Tok) (c0 : (decide (x < -(2 ^ 63)) || decide (x ≥ 2 ^ 63)) = false) (c1 : (items.isEmpty || x == 1) = false) (c2 : (decide (x ≤ 0) || items.isEmpty) = true) :
    Meets (Builtin.«tuple.__mul__» ⟨[.ref l, .int x u], []⟩) (fun _ R s => s.heap.get? l = some { cls := .type "tuple", dict := dd, data := .seq items n, slots := sl } ∧
      R (.ok (.ret (Value.ref s.heap.objs.size))) { s with heap := s.heap.push { cls := Value.type "tuple", data := Data.seq #[] }, toks := s.toks }) :=
  .of_wp fun prog w A R s h => by
    obtain ⟨hp, g, d, tk, os⟩ := s
    obtain ⟨hl, h⟩ := h
    have f1 := AutoSeq1.idx_int
    wp_walk using wpAny_loadPart' hl
    repeat (first
      | (refine wpAny_ite_false (decide_eq_false (by rw [c0]; exact Bool.false_ne_true)) ?_; wp_walk using wpAny_loadPart' hl)
      | (refine wpAny_ite_false (decide_eq_false (by rw [c1]; exact Bool.false_ne_true)) ?_; wp_walk using wpAny_loadPart' hl)
      | (refine wpAny_ite_true (decide_eq_true c2) ?_; wp_walk using wpAny_loadPart' hl))
    all_goals exact ⟨_, rfl, h⟩
def rRep01 (K : PySem.W.Frag) : R2 := fun x y H Q => ∃ l k xs, x = .ref l ∧ y = .int k ∧ SqT K H l xs ∧ ((k = 1 ∧ Q (.ref l) H) ∨ (k = 0 ∧ xs ≠ [] ∧ ∀ p, H p = none → Q (.ref p) (upd H p (.tup []))))
theorem op_rep01 {X : Cx} : OpR X (binaryOp .Mult) (rRep01 X.K) := by
  intro pins s σ H x y v u Q I rx ry h
  obtain ⟨l, k, xs, rfl, rfl, hT, h⟩ := h
  cases rx
  obtain ⟨t, rfl⟩ := ry
  obtain ⟨its, r, ⟨⟨cls, dd, data, sl⟩, ho, hc, n, hd⟩, hs⟩ := I.tuple hT
  simp only at hc hd
  subst hc hd
  have hle : its.length = xs.length := r.length.symm
  rcases h with ⟨rfl, q⟩ | ⟨rfl, hne, q⟩
  · refine wpAny_binaryOp_repeat_ref (T := "tuple") (U := "int") (by decide) ⟨_, ho, rfl⟩ (fun s' => typeIs_int s' 1 t) noFill_tuple_mul F.fills_int_mul F.slot_int_rmul repeat_tuple F.slot_int_index.lookup
      (call_meets F.slot_int_rmul (typeIs_int s 1 t) F.entry_int_rmul (F.args_int_rmul_2 _ _) (int_rmul_tuple 1 t l its.toArray n dd sl)
        ⟨ho, rfl, ⟨_, ho, rfl⟩, call_meets F.slot_tuple_mul ⟨_, ho, rfl⟩ F.entry_tuple_mul (F.args_tuple_mul_2 _ _) (tmul1 l its.toArray n dd sl t) ⟨ho, ?_⟩⟩)
    exact ⟨.ref l, H, I, rfl, q⟩
  · have hn : its ≠ [] := fun e => hne (List.eq_nil_of_length_eq_zero (by rw [← hle, e]; rfl))
    have hi : its.toArray.isEmpty = false := by
      cases its with
      | nil => exact absurd rfl hn
      | cons a b => rfl
    refine wpAny_binaryOp_repeat_ref (T := "tuple") (U := "int") (by decide) ⟨_, ho, rfl⟩ (fun s' => typeIs_int s' 0 t) noFill_tuple_mul F.fills_int_mul F.slot_int_rmul repeat_tuple F.slot_int_index.lookup
      (call_meets F.slot_int_rmul (typeIs_int s 0 t) F.entry_int_rmul (F.args_int_rmul_2 _ _) (int_rmul_tuple 0 t l its.toArray n dd sl)
        ⟨ho, rfl, ⟨_, ho, rfl⟩, call_meets F.slot_tuple_mul ⟨_, ho, rfl⟩ F.entry_tuple_mul (F.args_tuple_mul_2 _ _) (tmul0 l its.toArray n dd sl 0 t (by decide) (by rw [hi]; decide) (by rw [hi]; decide)) ⟨ho, ?_⟩⟩)
    refine ⟨.ref s.heap.objs.size, _, I.laid (t' := s.toks) (o := .tup []) (fun b ob q => Heap.get?_push_of_some _ q) (Nat.le_refl _) ?_, rfl, q _ (I.hok.fresh (Nat.le_refl _))⟩
    exact ⟨by rw [sizeLine_eq]; decide, _, .nil, IsTup.new _ _⟩
/-- tuple * int, the tuple not empty -/
def fMulT : D → D → Option D
  | .tup xs, .int k => if xs ≠ [] ∧ 0 ≤ k ∧ k ≤ 1000 ∧ xs.length ≤ 1000 then some (.tup (List.replicate k.toNat xs).flatten) else none
  | _, _ => none
instance decNil (xs : List D) : Decidable (xs ≠ []) := match xs with
  | [] => .isFalse fun h => h rfl
  | _ :: _ => .isTrue nofun
def rMulT (K : PySem.W.Frag) : R2 := fun x y H Q => rRep01 K x y H Q ∨ rRepT K x y H Q
theorem op_mulT {X : Cx} : OpR X (binaryOp .Mult) (rMulT X.K) := op_rep01.or op_repT
theorem k_mulT {K : PySem.W.Frag} : R2Ok K (rMulT K) fMulT := by
  intro pn w x y d e z Q r p1 p2 hz k
  unfold fMulT at hz
  split at hz
  · split at hz
    · rename_i xs j hf
      obtain ⟨hne, h0, h1, hl⟩ := hf
      cases hz
      cases p2
      cases p1 with
      | tup hs rs =>
        have hT := tqT (K := K) r.ex hs
        have hv : ∀ {vs : List V}, Reps K w.G vs xs → vs ≠ [] := fun {vs} q e => by subst e; cases q; exact hne rfl
        by_cases c0 : j = 0
        · subst c0
          refine .inl ⟨_, _, _, rfl, rfl, hT, .inr ⟨rfl, hv rs, fun p hp => ?_⟩⟩
          exact k _ _ _ (gle_upd (r.noF hp)) (r.new hp) (.tup upd_same .nil)
        · by_cases c1 : j = 1
          · subst c1
            refine .inl ⟨_, _, _, rfl, rfl, hT, .inl ⟨rfl, ?_⟩⟩
            have e : (List.replicate (1 : Int).toNat xs).flatten = xs := by simp
            rw [e] at k
            exact k _ _ _ (.refl _) r (.tup hs rs)
          · refine .inr ⟨_, _, _, rfl, rfl, hT, hv rs, by omega, h1, by rw [rs.length]; exact hl, fun p hp => ?_⟩
            exact k _ _ _ (gle_upd (r.noF hp)) (r.new hp) (.tup upd_same ((reps_rep rs _).mono (gle_upd (r.noF hp))))
    · cases hz
  · cases hz
end DL

namespace DL
open PySem PySem.Spec PyProof.Rows L2
/-! ### {t: v for target in iter}, t a tuple -/
/-- the store at a tuple's key, at the level of a block -/
theorem putT_dict {X : Cx} {pins : List (Addr × Obj)} {σ : L2.St} {H : Hp} {s : Shared} {E : Value → Shared → Prop} {D b : Addr} {kvs : List (List Key × V)} {k : List Key} {v : V} {r : Value} {Q : Unit → Shared → Prop} (hu : X.A.units < cLine) (J : Inv X pins σ H s) (eD : H D = some (.dT kvs)) (eb : H b = some (.tup (k.map kV))) (lt : kvs.length < sizeLine)
    (rv : RelV v r) (go : ∀ s2, Inv X pins σ (upd H D (.dT (putK kvs k v))) s2 → Q () s2) : wpAny (model X.prog X.w) X.A (dictSet D (.ref b) r) Q E s := by
  obtain ⟨z, ns, xs, rel, dd⟩ := dt_of J.hok eD
  have zx : xs.length ≤ sizeLine := by rw [← Paired.length rel]; exact z
  have zl : (putK kvs k v).length ≤ sizeLine := by have := length_putK kvs k v; omega
  refine wpAny_dictSet_heap (knd := tupleKind (mixKind X.prog X.w)) (hsz := zx) hu (key_of J.hok eb) dd fun h2 dd2 sb => go _ ?_
  obtain ⟨q, es, ep, hq, w2, w3, w4, _, w5⟩ := dd2
  refine d_write J (by rw [eD]; exact True.intro) sb ⟨q, hq⟩ ⟨zl, ns, _, (rel.put k eb rv).keeps fun c ys ec => ?_, q, es, ep, hq, w2, w3, w4, w5⟩
  exact (upd_ne (ne_of ec eD (fun z => nomatch z))).trans ec
def tDcT (wi : TI) (g : TG) (tt : TT) (tk tv : TE) (vs : List Nat) : TE := fun σ H Q => wi σ H fun J H1 => ∀ D, H1 D = none → ∃ W : Nat → Nat → Hp → Prop, (∃ m, W 0 m (upd H1 D (.dT []))) ∧ ∀ i m H, W i m H →
  (J.stop i H ∧ Q (.ref D) H) ∨ (J.go i H ∧ ∃ Nx : Hp → Prop, (∀ H', Nx H' → ∃ m', m' < m ∧ W (i + 1) m' H') ∧ ∀ x H', J.yld i H x H' → g x (wipe σ vs) H' fun σ2 H2 => wipe σ2 vs = wipe σ vs ∧ tt σ2 H2 fun b H3 =>
    if b = true then tk σ2 H3 fun y H4 => tv σ2 H4 fun z H5 => ∃ c kvs k, y = .ref c ∧ H5 c = some (.tup (k.map kV)) ∧ H5 D = some (.dT kvs) ∧ kvs.length < sizeLine ∧ Nx (upd H5 D (.dT (putK kvs k z))) else Nx H3)
section
variable {X : Cx}
theorem pe_dcT {kx vx tg iter : Expr} {ifs : List Expr} {scope : Scope} {own : List (Str × Nat)} {pos : Pos} {wi : TI} {g : TG} {tt : TT} {tk tv : TE} (hu : X.A.units < cLine) (calm : X.calm = true) (nd : X.N.Nodup) (walk : PI X tg iter wi) (ok : BlkOk X.N X.env.scope scope own)
    (mg : ∀ (s : Shared) (H : Hp) (C : Addr) (cl : List (Str × Addr)) (fp : List Addr), PG (X.blk s H scope (compEnvC scope cl C X.env) fp) tg g) (mt : ∀ (s : Shared) (H : Hp) (C : Addr) (cl : List (Str × Addr)) (fp : List Addr), PTs (X.blk s H scope (compEnvC scope cl C X.env) fp) ifs tt)
    (mk : ∀ (s : Shared) (H : Hp) (C : Addr) (cl : List (Str × Addr)) (fp : List Addr), PE (X.blk s H scope (compEnvC scope cl C X.env) fp) kx tk)
    (mv : ∀ (s : Shared) (H : Hp) (C : Addr) (cl : List (Str × Addr)) (fp : List Addr), PE (X.blk s H scope (compEnvC scope cl C X.env) fp) vx tv) (fold : ∀ x, foldedSetIterable iter X.env x = pure x := by intro _; rfl) :
    PE X (.DictComp kx vx [⟨tg, iter, ifs, 0⟩] scope pos) (tDcT wi g tt tk tv (own.map (·.2))) := by
  refine ⟨fun pins s σ H Q J h => ?_⟩
  rw [arm_eval_DictComp]
  have cells : ∀ y ∈ scope.names, y.2 = .free → ∃ c, X.env.cells.lookup y.1 = some c := fun y hy e => (ok.free y hy e).elim (fun k => J.ok.has _ (.inl k)) fun k => J.ok.has _ (.inr k)
  refine wpAny_comprehension_free rfl fold (closure_ok cells) ok.kind (fun y hy e => by rw [ok.uniq y hy, e]) (thn (walk.run pins s σ H _ J h) fun xv s1 hx => thn hx fun itv s2 h2 => ?_)
  obtain ⟨it, fp, tn, K2, H2, rfl, J2, T, st2, f2, q⟩ := h2
  refine wpAny_newObj_type (newEnv_comp ?_)
  generalize hD : s2.heap.objs.size = D
  have freeD : H2 D = none := J2.hok.fresh (Nat.le_of_eq hD)
  obtain ⟨W, ⟨m0, w0⟩, turn⟩ := q D freeD
  generalize hs3 : ({ s2 with heap := s2.heap.push { cls := .type "dict", data := .dict #[] } } : Shared) = s3
  have J3 : Inv X pins σ (upd H2 D (.dT [])) s3 := by
    rw [← hs3]
    refine J2.laid (t' := s2.toks) (fun b o e => Heap.get?_push_of_some _ e) (Nat.le_of_eq hD) ?_
    rw [← hD]
    exact dt_empty s2.heap J2.big
  have h3 : s3.heap = s2.heap.push { cls := .type "dict", data := .dict #[] } := by rw [← hs3]
  have f3 : ∀ b ∈ fp, FpOk X pins (upd H2 D (.dT [])) b ∧ b < s3.heap.objs.size := fun b hb => by
    obtain ⟨o, e, _⟩ := T.obj _ _ st2 b hb
    have lt := Heap.lt_size e
    refine ⟨⟨(upd_ne (by rw [← hD]; exact Nat.ne_of_lt lt)).trans (f2 b hb).1, (f2 b hb).2⟩, ?_⟩
    rw [h3, Heap.size_push]
    exact Nat.lt_succ_of_lt lt
  have st3 : tn 0 s3.heap := T.keep _ _ _ st2 fun b _ o e => by rw [h3]; exact Heap.get?_push_of_some _ e
  have J4 := block_start J3 ok nd f3
  generalize hcl : cellsFrom (s3.heap.objs.size + 1) scope.names (cloFrom X.env.cells scope.names []) = cl at J4 ⊢
  have pg := mg s3 (upd H2 D (.dT [])) s3.heap.objs.size cl fp
  have pt := mt s3 (upd H2 D (.dT [])) s3.heap.objs.size cl fp
  have pk := mk s3 (upd H2 D (.dT [])) s3.heap.objs.size cl fp
  have pv := mv s3 (upd H2 D (.dT [])) s3.heap.objs.size cl fp
  show codeAny _ _ (.compStart (.DictComp kx vx [⟨tg, iter, ifs, 0⟩] scope pos) 0 (.ref it) (.ref D) (compEnvC scope cl s3.heap.objs.size X.env)) _ { s3 with heap := pushCells (s3.heap.push { cls := .type "dict", data := .dict #[] }) scope.names }
  have nfp : ∀ b ∈ fp, (upd H2 D (.dT [])) b = none := fun b hb => (f3 b hb).1.1
  generalize hce : compEnvC scope cl s3.heap.objs.size X.env = ce at J4 pg pt pk pv ⊢
  have cL : ce.locals = s3.heap.objs.size := by subst hce; rfl
  generalize hH3 : upd H2 D (.dT []) = H3 at J3 J4 pg pt pk pv w0 nfp f3
  generalize hs4 : ({ s3 with heap := pushCells (s3.heap.push { cls := .type "dict", data := .dict #[] }) scope.names } : Shared) = s4 at J4 ⊢
  have st4 : tn 0 s4.heap := T.keep _ _ _ st3 fun b _ o e => by rw [← hs4]; exact pushCells_keeps _ _ _ _ (Heap.get?_push_of_some _ e)
  have still : ∀ {σ' : L2.St} {H' : Hp} {s' : Shared}, Inv (X.blk s3 H3 scope ce fp) [] σ' H' s' → (∀ b ∈ fp, H' b = none) → ∀ b ∈ fp, FpOk (X.blk s3 H3 scope ce fp) [] H' b := fun {σ' H' s'} I' hn b hb =>
    ⟨hn b hb, (I'.ok.exf b hb).1, I'.ok.exfs b hb, .inl hb, fun x c e => (I'.ok.exf b hb).2 x c e, fun p hp => absurd (show p ∈ ([] : List (Addr × Obj)) ++ [] from hp) (by simp)⟩
  suffices loop : codeAny (model X.prog X.w) X.A (.compLoop (.DictComp kx vx [⟨tg, iter, ifs, 0⟩] scope pos) 0 (.ref it) (.ref D) ce) (compPost (model X.prog X.w) X.A X.xe none (EP X pins σ Q) (.ref D) s3.heap.objs.size) s4 from codeAny_compStart_dict loop (T.self X.A 0 _ _ _ st4 loop)
  refine compLoop_anyD (fun n s' => ∃ i H', Inv (X.blk s3 H3 scope ce fp) [] (wipe σ (own.map (·.2))) H' s' ∧ tn i s'.heap ∧ (∀ b ∈ fp, H' b = none) ∧ W i n H') ?_ m0 ⟨0, H3, J4, st4, nfp, w0⟩
  rintro n s5 ⟨i, H5, J5, st5, n5, w5⟩
  rcases turn i n H5 w5 with ⟨stop, qq⟩ | ⟨more, Nx, hNx, step⟩
  · refine thnF (T.done (X.blk s3 H3 scope ce fp) rfl rfl rfl calm i [] s5 _ H5 (fun _ _ => False) J5 (still J5 n5) st5 stop) fun r s6 ⟨hr, J6⟩ => ?_
    subst hr
    have J7 : Inv X pins σ H5 s6 := J3.call' (ch := fp) J6.os J6.base J6.hok J6.bare fun b hb => ⟨(f3 b hb).1.2.2.2.1, (f3 b hb).1.2.1, (f3 b hb).1.2.2.2.2.1, (f3 b hb).1.2.2.2.2.2⟩
    have nC : H5 s3.heap.objs.size = none := cL ▸ (show H5 ce.locals = none from J6.free)
    obtain ⟨m, hn, _⟩ := J6.loc
    have hn : s6.heap.Ns ce.locals m := hn
    rw [cL] at hn
    refine ⟨m, hn, fun h7 sb => ?_⟩
    obtain ⟨f0, f1, _, f3', f4, f5⟩ := J3.fpOk (Nat.le_refl _) nC
    exact ⟨.ref D, H5, J7.turned (t' := s6.toks) (fun b o hb e => (sb.2 b hb).trans e) f0 f1 f3' f4 f5, rfl, qq⟩
  · refine thnF (T.item (X.blk s3 H3 scope ce fp) rfl rfl rfl calm i [] s5 _ H5 (fun _ _ => False) J5 (still J5 n5) st5 more) fun r s6 ⟨u, hr, h6⟩ => ?_
    subst hr
    refine thnF h6 fun _ s7 ⟨x, H7, J7, r7, y7, st7, n7⟩ => ?_
    refine thnF (pg.run _ s7 _ H7 x u _ (J7.pinned (still J7 n7) (T.obj _ _ st7)) r7 (step x H7 y7)) fun _ s8 ⟨σ8, H8, J8, hw8, q8⟩ => ?_
    refine thnF (pt.run _ s8 σ8 H8 _ J8 q8) fun b s9 ⟨H9, J9, q9⟩ => ?_
    have ends : ∀ {s' : Shared} {H' : Hp}, Inv (X.blk s3 H3 scope ce fp) ([] ++ pinsAt fp s7.heap) σ8 H' s' → Nx H' → ∃ m, m < n ∧ ∃ i H', Inv (X.blk s3 H3 scope ce fp) [] (wipe σ (own.map (·.2))) H' s' ∧ tn i s'.heap ∧ (∀ b ∈ fp, H' b = none) ∧ W i m H' := fun {s' H'} I' nx => by
      obtain ⟨m', hm, w'⟩ := hNx H' nx
      have pins' : ∀ b ∈ fp, ∀ o, s7.heap.get? b = some o → s'.heap.get? b = some o ∧ H' b = none := fun b hb o e =>
        have z := I'.pin (b, o) (List.mem_append_right _ (List.mem_append_right _ (mem_pinsAt hb e)))
        ⟨z.1, z.2.1⟩
      refine ⟨m', hm, i + 1, H', (I'.unpinned (pins := [])).weak (by rw [← hw8, wipe_length]) (fun j v e => ?_), T.keep _ _ _ st7 fun b hb o e => (pins' b hb o e).1, fun b hb => ?_, w'⟩
      · rw [← hw8] at e
        exact (wipe_some e).1
      · obtain ⟨o, e, _⟩ := T.obj _ _ st7 b hb
        exact (pins' b hb o e).2
    cases b with
    | false =>
      simp only [Bool.false_eq_true, if_false] at q9 ⊢
      exact ends J9 q9
    | true =>
      simp only [if_true] at q9 ⊢
      refine thnF (pk.run _ s9 σ8 H9 _ J9 q9) fun z s10 ⟨yk, H10, J10, r10, q10⟩ => ?_
      refine thnF (pv.run _ s10 σ8 H10 _ J10 q10) fun z2 s11 ⟨yv, H11, J11, r11, c, kvs, k, ek, eb, hD11, hz11, nx⟩ => ?_
      subst ek
      cases (show z = Value.ref c from r10)
      exact putT_dict (X := X.blk s3 H3 scope ce fp) hu J11 hD11 eb hz11 r11 fun s12 J12 => ends J12 nx
end
end DL

namespace DL
open PySem PySem.Spec L2
/-! ### {t: v for ..} as a cell -/
def dcs (g : MG) (t : MT) (mk mv : ME) (vs : List Nat) : List (List Key × D) → List D → S → R (List (List Key × D))
  | acc, [] => fun s => .ok acc s
  | acc, d :: ds => fun s => match g d with
    | none => .stuck
    | some l => match t (s.puts l) with
      | .ok b s1 => if b then (match mk s1 with
          | .ok y s2 => (match mv s2 with
            | .ok z s3 => (match keyD y with
              | some k => if acc.length < 1000 ∧ noX s3 = true then dcs g t mk mv vs (putD acc k z) ds (wipeS s3 vs) else .stuck
              | none => .stuck)
            | _ => .stuck)
          | _ => .stuck) else if noX s1 = true then dcs g t mk mv vs acc ds (wipeS s1 vs) else .stuck
      | _ => .stuck
def endD : R (List (List Key × D)) → R D
  | .ok kvs s => .ok (.loc s.st.length) { s with st := s.st ++ [.dtt kvs] }
  | _ => .stuck
def mDc (it : MA) (g : MG) (t : MT) (mk mv : ME) (vs : List Nat) : ME := bnd it fun ds s => if noX s = true then endD (dcs g t mk mv vs [] ds (wipeS s vs)) else .stuck
theorem noX_wipe {s : S} {vs : List Nat} (h : noX s = true) : noX (wipeS s vs) = true := by
  refine List.all_eq_true.mpr fun x hx => ?_
  obtain ⟨i, hi⟩ := List.mem_iff_getElem?.mp hx
  by_cases hv : i ∈ vs
  · rw [wipeS_emp hv hi]
  · have key : ∀ (vs : List Nat), i ∉ vs → (wipeS s vs).sl[i]? = s.sl[i]? := by
      intro vs
      induction vs with
      | nil => exact fun _ => rfl
      | cons v vs ih =>
        intro hn
        simp only [List.mem_cons, not_or] at hn
        exact (List.getElem?_set_ne (Ne.symm hn.1)).trans (ih hn.2)
    rw [key vs hv] at hi
    exact List.all_eq_true.mp h _ (List.mem_of_getElem? hi)
theorem repU_at {K : PySem.W.Frag} {G : Gh} : ∀ {lv : List (Nat × V)} {l : List (Nat × D)}, RepU K G lv l → ∀ p ∈ lv, ∃ q ∈ l, q.1 = p.1
  | _, _, .nil, p, hp => by cases hp
  | _, _, .cons a r, p, hp => by
    rcases List.mem_cons.mp hp with z | z
    · subst z
      exact ⟨_, List.mem_cons_self, a.1.symm⟩
    · obtain ⟨q, q1, q2⟩ := repU_at r p z
      exact ⟨q, List.mem_cons_of_mem _ q1, q2⟩
section
variable {X : Cx} {W : WX} {it : MA} {g : MG} {ix : List Nat} {t : MT} {mk mv : ME}
theorem dc_run {σ : L2.St} {H : Hp} {Q : VK} {vs : List Nat} (hix : ∀ i ∈ ix, i ∈ vs) (hgx : ∀ d l, g d = some l → ∀ p ∈ l, p.1 ∈ ix) (h : tG X.K X.pn W (AR X.K) (mDc it g t mk mv vs) σ H Q) :
    tDcT (tG X.K X.pn W (AI X.K) it) (tTg X.K g) (tG X.K [] WF AB t) (tG X.K [] WF (AR X.K) mk) (tG X.K [] WF (AR X.K) mv) vs σ H Q := by
  obtain ⟨w, rfl, rfl, r, h⟩ := h
  refine run r h fun ds s' G' J H' g' r' I h' => ?_
  intro L hL
  split at h'
  · rename_i hx
    have r0 : Rel X.K [] { w with G := G', σ := L2.wipe w.σ vs, H := upd H' L (.dT []), s := wipeS s' vs, pr := (L, .dT []) :: w.pr } := Rel.prPush (w := { w with G := G', σ := L2.wipe w.σ vs, H := H', s := wipeS s' vs }) (Rel.wipe (Rel.pn r' hx) vs) hL
    have hl : ∀ q ∈ w.pr, q.1 ≠ L := fun q hq => Rel.noP r' hL q hq
    refine ⟨fun i mm H => mm = ds.length - i ∧ i ≤ ds.length ∧ ∃ (G2 : Gh) (s2 : S) (acc : List (List Key × D)) (us : List (List Key × V)), G'.le G2 ∧ Rel X.K [] { w with G := G2, σ := L2.wipe w.σ vs, H := H, s := wipeS s2 vs, pr := (L, .dT us) :: w.pr } ∧ KvRel X.K G2 us acc ∧
      noX (wipeS s2 vs) = true ∧ okG X.K X.pn W (AR X.K) { w with G := G2, H := H, s := wipeS s2 vs } Q (endD (dcs g t mk mv vs acc (ds.drop i) (wipeS s2 vs))), ⟨_, rfl, Nat.zero_le _, G', s', [], [], .refl _, r0, .nil, noX_wipe hx, okG.up (w := { w with G := G', H := H', s := s' }) h' (.refl _)⟩, ?_⟩
    rintro i mm H2 ⟨rfl, hi, G2, s2, acc, us, g2, r2, rs, hx2, h2⟩
    by_cases hlt : i < ds.length
    · have hd : ds[i]? = some ds[i] := List.getElem?_eq_getElem hlt
      rw [List.drop_eq_getElem_cons hlt] at h2
      refine .inr ⟨I.go _ _ r2 g2 i hlt, fun H => ∃ (G2 : Gh) (s2 : S) (acc : List (List Key × D)) (us : List (List Key × V)), G'.le G2 ∧ Rel X.K [] { w with G := G2, σ := L2.wipe w.σ vs, H := H, s := wipeS s2 vs, pr := (L, .dT us) :: w.pr } ∧ KvRel X.K G2 us acc ∧
          noX (wipeS s2 vs) = true ∧ okG X.K X.pn W (AR X.K) { w with G := G2, H := H, s := wipeS s2 vs } Q (endD (dcs g t mk mv vs acc (ds.drop (i + 1)) (wipeS s2 vs))), fun H' hw => ⟨_, by omega, rfl, hlt, hw⟩, fun x H3 y => ?_⟩
      obtain ⟨G3, g3, r3, p3⟩ := I.yld _ _ r2 g2 i _ x H3 hd y
      have h2' := h2
      unfold dcs at h2'
      cases hl2 : g ds[i] with
      | none => simp only [hl2] at h2'; exact h2'.elim
      | some l =>
        simp only [hl2] at h2'
        refine ⟨[], _, ds[i], l, rfl, r3, p3, hl2, fun lv hv => ?_⟩
        have hlv : ∀ p ∈ lv, p.1 ∈ vs := fun p hp => by
          obtain ⟨q, q1, q2⟩ := repU_at hv p hp
          rw [← q2]
          exact hix _ (hgx _ _ hl2 q q1)
        have wσ : L2.wipe (upds (L2.wipe w.σ vs) lv) vs = L2.wipe w.σ vs := by rw [wipe_upds hlv, wipe_wipe]
        refine ⟨wσ, ?_⟩
        have r4 := Rel.sets r3 hv
        cases ht : t ((wipeS s2 vs).puts l) with
        | exc y s5 => simp only [ht] at h2'; exact h2'.elim
        | stuck => simp only [ht] at h2'; exact h2'.elim
        | ok b s5 =>
          simp only [ht] at h2'
          refine ⟨_, rfl, rfl, r4, ?_⟩
          show okG X.K [] WF AB _ _ (t ((wipeS s2 vs).puts l))
          rw [ht]
          intro G5 b5 H5 g5 r5 e5
          subst e5
          cases b5 with
          | false =>
            simp only [Bool.false_eq_true, if_false] at h2' ⊢
            split at h2'
            · rename_i hx5
              have r6 := Rel.wipe (w := { w with G := G5, σ := upds (L2.wipe w.σ vs) lv, H := H5, s := s5, pr := (L, .dT us) :: w.pr }) r5 vs
              dsimp only at r6
              rw [wσ] at r6
              exact ⟨G5, s5, acc, us, (g2.trans g3).trans g5, r6, rs.mono (g3.trans g5), noX_wipe hx5, okG.up (w := { w with G := G2, H := H2, s := wipeS s2 vs }) h2' (g3.trans g5)⟩
            · exact h2'.elim
          | true =>
            simp only [if_true] at h2' ⊢
            cases hm : mk s5 with
            | exc y s6 => simp only [hm] at h2'; exact h2'.elim
            | stuck => simp only [hm] at h2'; exact h2'.elim
            | ok y s6 =>
              simp only [hm] at h2'
              refine ⟨_, rfl, rfl, r5, ?_⟩
              show okG X.K [] WF (AR X.K) _ _ (mk s5)
              rw [hm]
              intro G6 vy H6 g6 r6 p6
              cases hm2 : mv s6 with
              | exc y2 s7 => simp only [hm2] at h2'; exact h2'.elim
              | stuck => simp only [hm2] at h2'; exact h2'.elim
              | ok z s7 =>
                simp only [hm2] at h2'
                refine ⟨_, rfl, rfl, r6, ?_⟩
                show okG X.K [] WF (AR X.K) _ _ (mv s6)
                rw [hm2]
                intro G7 vz H7 g7 r7 p7
                cases hk : keyD y with
                | none => simp only [hk] at h2'; exact h2'.elim
                | some k =>
                  simp only [hk] at h2'
                  split at h2'
                  · rename_i hf
                    have hH : H7 L = some (.dT us) := (r7.pr (L, .dT us) List.mem_cons_self).1
                    obtain ⟨b, rfl, hb⟩ := key_v r7 (p6.mono g7) hk
                    have gg := ((g3.trans g5).trans g6).trans g7
                    refine ⟨b, us, k, rfl, hb, hH, by rw [kv_len rs, sizeLine_eq]; omega, ?_⟩
                    have r8 := Rel.wipe (Rel.prPut (o' := .dT (putK us k vz)) r7 rfl hl) vs
                    dsimp only at r8
                    rw [wσ] at r8
                    exact ⟨G7, s7, putD acc k z, putK us k vz, g2.trans gg, r8, kv_put (rs.mono gg) p7, noX_wipe hf.2, okG.up (w := { w with G := G2, H := H2, s := wipeS s2 vs }) h2' gg⟩
                  · exact h2'.elim
    · have e : i = ds.length := by omega
      subst e
      rw [List.drop_length] at h2
      refine .inl ⟨I.stop _ _ r2 g2 _ (Nat.le_refl _), ?_⟩
      obtain ⟨q1, q2, q3, q4, q5⟩ := r2.pr (L, .dT us) List.mem_cons_self
      have r9 : Rel X.K [] { w with G := G2, σ := w.σ, H := H2, s := wipeS s2 vs, pr := (L, .dT us) :: w.pr } := Rel.unwipe (w := { w with G := G2, H := H2, pr := (L, .dT us) :: w.pr }) (σ := w.σ) (s := s2) (vs := vs) r2
      have q6 : ∀ (i : Nat) es, (wipeS s2 vs).sl[i]? = some (.own es) → w.σ[i]? ≠ some (some (.ref L)) := (r9.pr (L, .dT us) List.mem_cons_self).2.2.2.2
      obtain ⟨g3, r4, q7⟩ := Rel.mkCell (w := { w with G := G2, σ := w.σ, H := H2, s := wipeS s2 vs, pr := (L, .dT us) :: w.pr }) (o := .dtt acc) (u := .dT us) (l := w.pr) (Rel.pn r9 hx2) q2 q3.1 q4 q6 (fun q hq => ⟨List.mem_cons_of_mem _ hq, hl q hq⟩) (fun G3 H3 g3 hH => ⟨us, hH, rs.mono g3⟩)
      have eH : upd H2 L (.dT us) = H2 := by
        funext a
        by_cases e : a = L
        · subst e; exact upd_same.trans q1.symm
        · exact upd_ne e
      rw [show (upd ({ w with G := G2, σ := w.σ, H := H2, s := wipeS s2 vs, pr := (L, .dT us) :: w.pr } : Wd).H L (.dT us)) = H2 from eH] at r4
      exact h2 _ _ H2 g3 r4 q7
  · exact h'.elim
variable {kx vx tg iter : Expr} {ifs : List Expr} {scope : Scope} {own : List (Str × Nat)} {pos : Pos}
theorem je_dc (hu : X.A.units < cLine) (hc : X.calm = true) (hN : X.N.Nodup) (hi : JI X W tg iter it) (ok : BlkOk X.N X.env.scope scope own)
    (hg : ∀ (s : Shared) (H : Hp) (C : Addr) (cl : List (Str × Addr)) (fp : List Addr), JG (X.blk s H scope (compEnvC scope cl C X.env) fp) tg g ix) (ht : ∀ (s : Shared) (H : Hp) (C : Addr) (cl : List (Str × Addr)) (fp : List Addr), JTs (X.blk s H scope (compEnvC scope cl C X.env) fp) WF ifs t)
    (hk : ∀ (s : Shared) (H : Hp) (C : Addr) (cl : List (Str × Addr)) (fp : List Addr), JE (X.blk s H scope (compEnvC scope cl C X.env) fp) WF kx mk) (hv : ∀ (s : Shared) (H : Hp) (C : Addr) (cl : List (Str × Addr)) (fp : List Addr), JE (X.blk s H scope (compEnvC scope cl C X.env) fp) WF vx mv) (hix : ∀ i ∈ ix, i ∈ own.map (·.2) := by decide) (hs : ∀ x, foldedSetIterable iter X.env x = pure x := by intro _; rfl) :
    JE X W (.DictComp kx vx [⟨tg, iter, ifs, 0⟩] scope pos) (mDc it g t mk mv (own.map (·.2))) := by
  have hgx : ∀ d l, g d = some l → ∀ p ∈ l, p.1 ∈ ix := (hg (X.s_0) (X.H_0) 0 [] []).ix
  exact PE.imp (pe_dcT (g := tTg X.K g) (tt := tG X.K [] WF AB t) (tk := tG X.K [] WF (AR X.K) mk) (tv := tG X.K [] WF (AR X.K) mv) hu hc hN hi ok (fun s H C cl fp => (hg s H C cl fp).pg) (fun s H C cl fp => ht s H C cl fp) (fun s H C cl fp => hk s H C cl fp) (fun s H C cl fp => hv s H C cl fp) hs) fun σ H Q h => dc_run hix hgx h
end
end DL

namespace DL
open PySem PySem.Spec L2
/-! ### range(i, j, c) -/
def stepsD (lo c : Int) (n : Nat) : List D := (List.range n).map fun (k : Nat) => .int (lo + k * c)
theorem stepsD_get {lo c : Int} {n i : Nat} {d : D} (h : (stepsD lo c n)[i]? = some d) : i < n ∧ d = .int (lo + (i : Nat) * c) := by
  unfold stepsD at h
  rw [List.getElem?_map] at h
  by_cases hl : i < n
  · rw [List.getElem?_range hl] at h
    cases h
    exact ⟨hl, rfl⟩
  · rw [List.getElem?_eq_none (by simpa using hl)] at h
    cases h
theorem itc_r {K : PySem.W.Frag} {G : Gh} {lo c : Int} {n : Nat} : ItR K (Itc lo c n) G (stepsD lo c n) where
  go := fun pn w r g i hi => by show i < n; simpa [stepsD] using hi
  yld := fun pn w r g i d x H' hd y => by
    obtain ⟨e, y⟩ := y
    subst e y
    obtain ⟨_, rfl⟩ := stepsD_get hd
    exact ⟨w.G, .refl _, r, .int _⟩
  stop := fun pn w r g i hi => by show n ≤ i; simpa [stepsD] using hi
def rng3 : List D → Option (List D)
  | [.int i, .int j, .int c] => if c ≠ 0 ∧ c.natAbs < 1073741824 ∧ Builtin.Range.small i j c = true ∧ 0 ≤ Builtin.Range.rangeSize i j c then some (stepsD i c (Builtin.Range.rangeSize i j c).toNat) else none
  | _ => none
theorem ji_range3 {X : Cx} {W : WX} {tg a b c : Expr} {m : MA} {p pos : Pos} (hg : Gl X "range") (hm : X.mg "range" = none) (ha : JA X W [a, b, c] m) (hs : starEach [a, b, c] X.env = (false, eval a X.env) :: starEach [b, c] X.env := by rfl) (hpl : (backTo pos (starEach [b, c] X.env)).any (·.1) = false := by rfl) : JI X W tg (.Call (.Name "range" p) [a, b, c] [] pos) (mRng rng3 m) := by
  refine PI.imp (pi_range3 hg hm ha.pa hs hpl) fun σ H Q h => ?_
  obtain ⟨w, rfl, rfl, r, h⟩ := h
  refine run r h fun ds s2 G' vs H' g r' q h' => ?_
  cases hd : rng3 ds with
  | none => rw [hd] at h'; exact h'.elim
  | some l =>
    rw [hd] at h'
    unfold rng3 at hd
    split at hd
    · split at hd
      · rename_i hj
        cases hd
        cases q with
        | cons q1 q2 =>
          cases q1
          cases q2 with
          | cons q2 q3 =>
            cases q2
            cases q3 with
            | cons q3 q4 =>
              cases q3; cases q4
              exact ⟨_, _, _, _, rfl, ⟨hj.1, hj.2.1, hj.2.2.1, (Int.toNat_of_nonneg hj.2.2.2).symm⟩, fin r' h' itc_r⟩
      · cases hd
    · cases hd
end DL

/-! the defs that many laws share, and what they do -/
namespace LC
open PySem PySem.Spec L2 DL
noncomputable section
def m__law_draw : MS := (mSeq (mIfS (mBl (mBin iGt (mGet (mVar 0) (.inr "rest")) (mC (.int 0)))) (mSeq (mSet 2 (mBin iMod (mUn fInt (mGet (mVar 0) (.inr "rest"))) (mVar 1)))
  (mSeq (mPut (mVar 0) (.inr "rest") (mBin iDiv (mGet (mVar 0) (.inr "rest")) (mVar 1)))
  (mRet (mVar 2)))) mPass)
  (mSeq (mPar 3 4 (mCons (mGet (mVar 0) (.inr "begun")) (mCons (mUn fLen (mGet (mVar 0) (.inr "cells"))) mNil)))
  (mSeq (mPut (mVar 0) (.inr "begun") (mBin fAdd (mVar 3) (mC (.int 1))))
  (mSeq (mSet 5 (mBin fAdd (mBin fMul (mC (.int 73)) (mVar 3)) (mC (.int 19))))
  (mSeq (mIfS (mBl (mBin iGt (mVar 4) (mC (.int 0)))) (mSet 5 (mBin ixD (mGet (mVar 0) (.inr "cells")) (mBin iMod (mUn fInt (mLook 3)) (mVar 4)))) mPass)
  (mSeq (mIfS (mAndT (mBl (mBin iLt (mVar 3) (mVar 4))) (mBl (mBin iGe (mUn fAbs (mLook 5)) (mBin iPow (mC (.int 10)) (mC (.int 18)))))) (mSeq (mPut (mVar 0) (.inr "rest") (mBin iDiv (mBin iSub (mUn fAbs (mLook 5)) (mBin iPow (mC (.int 10)) (mC (.int 18)))) (mVar 1)))
  (mRet (mBin iMod (mBin iSub (mUn fAbs (mLook 5)) (mBin iPow (mC (.int 10)) (mC (.int 18)))) (mVar 1)))) mPass)
  (mSeq (mSet 6 (mBin iMod (mUn fInt (mBin fAdd (mBin fAdd (mBin fMul (mBin iMod (mUn fInt (mLook 5)) (mC (.int 4294967231))) (mC (.int 48271))) (mBin fMul (mBin fMul (mC (.int 30269)) (mVar 3)) (mVar 3))) (mC (.int 211)))) (mC (.int 4294967279))))
  (mSeq (mSet 6 (mBin iMod (mUn fInt (mBin fAdd (mBin fAdd (mBin fAdd (mBin fMul (mVar 6) (mVar 6)) (mBin fMul (mC (.int 69069)) (mVar 6))) (mBin fMul (mC (.int 23)) (mVar 3))) (mC (.int 7)))) (mC (.int 4294967291))))
  (mSeq (mSet 6 (mBin iDiv (mBin iMod (mUn fInt (mBin fMul (mVar 6) (mBin fAdd (mVar 6) (mC (.int 32771))))) (mC (.int 4294967197))) (mC (.int 64))))
  (mRet (mBin iMod (mUn fInt (mLook 6)) (mVar 1))))))))))))
def f__law_draw : Fn := fnM 7 m__law_draw
def m__law_pick : MS := (mRet (mIxN 1 (mCall f__law_draw (mCons (mVar 0) (mCons (mUn fLen (mLook 1)) mNil)))))
def f__law_pick : Fn := fnM 2 m__law_pick
def m__law_shuffled : MS := (mSeq (mParFF 2 3 (mUnF itD (mLook 1)) (mLst mNil))
  (mSeq (mWhile (mBl (mNeV 2 (mFz (mLst mNil)))) (mExpr (mApp 3 (mPopAt 2 (mCall f__law_draw (mCons (mVar 0) (mCons (mUn fLen (mLook 2)) mNil)))))))
  (mRet (mVar 3))))
def f__law_shuffled : Fn := fnM 4 m__law_shuffled
def m__law_pen : MS := (mRet (mDict [(.inr "cells", (mFz (mUnF itD (mSlN 0 mNoP (mPart (mC (.int 63))))))), (.inr "begun", (mC (.int 0))), (.inr "rest", (mC (.int 0)))]))
def f__law_pen : Fn := fnM 1 m__law_pen
def m__law_whole : MS := (mRet (mAnd (mUn (fIsi "int") (mLook 0)) (mNot (mUn (fIsi "bool") (mLook 0)))))
def f__law_whole : Fn := fnM 1 m__law_whole
def m_back : MS := (mSeq (mOwn 1 (mBinF lRepL (mFz (mLst (mCons (mC (.int 0)) mNil))) (mUn fLen (mLook 0))))
  (mSeq (mFor (mEnum (mVar 0)) (gTp 2 (gsCons (gNm 2) (gsCons (gNm 3) gsNil))) (mSetIx 1 (mVar 3) (mVar 2)))
  (mRet (mUn fTuple (mLook 1)))))
def f_back : Fn := fnM 4 m_back
def m_checked : MS := (mSeq (mIfS (mOrT (mNotT (mTru (mUn (fIsi "tuple") (mLook 0)))) (mNotT (mTru (mUn fAll (mFz (mLc (mIt (mVar 0)) (gNm 1) mYes (mAnd (mUn (fIsi "int") (mLook 1)) (mNot (mUn (fIsi "bool") (mLook 1)))) [1])))))) (mRaise "BadRenumbering" "numbers" (mVar 0)) mPass)
  (mSeq (mIfS (mBl (mBin fNe (mFz (mUnF fSortI (mFz (mLc (mIt (mVar 0)) (gNm 1) mYes (mUn fInt (mLook 1)) [1])))) (mFz (mUnF rgD (mUn fLen (mLook 0)))))) (mRaise "BadRenumbering" "numbers" (mVar 0)) mPass)
  (mRet (mVar 0))))
def f_checked : Fn := fnM 2 m_checked
def m_inverse : MS := (mRet (mCall f_back (mCons (mCall f_checked (mCons (mVar 0) mNil)) mNil)))
def f_inverse : Fn := fnM 1 m_inverse
def m_after : MS := (mRet (mUn fTuple (mFz (mLc (mIt (mVar 1)) (gNm 2) mYes (mIxN 0 (mVar 2)) [2]))))
def f_after : Fn := fnM 3 m_after
def m_sized : MS := (mSeq (mIfS (mBl (mBin fNe (mUn fLen (mCall f_checked (mCons (mVar 0) mNil))) (mVar 1))) (mRaise "BadRenumbering" "numbers" (mVar 0)) mPass)
  (mRet (mVar 0)))
def f_sized : Fn := fnM 2 m_sized
def m_compose : MS := (mSeq (mExpr (mCall f_checked (mCons (mVar 0) mNil)))
  (mRet (mCall f_after (mCons (mVar 0) (mCons (mCall f_sized (mCons (mVar 1) (mCons (mUn fLen (mLook 0)) mNil))) mNil)))))
def f_compose : Fn := fnM 2 m_compose
end
def penL (cs : List Int) (b r : Int) : List (Key × D) := [(.inr "cells", .lst (cs.map .int)), (.inr "begun", .int b), (.inr "rest", .int r)]
theorem pen_c (cs : List Int) (b r : Int) : valD (penL cs b r) (.inr "cells") = some (.lst (cs.map .int)) := rfl
theorem pen_b (cs : List Int) (b r : Int) : valD (penL cs b r) (.inr "begun") = some (.int b) := rfl
theorem pen_r (cs : List Int) (b r : Int) : valD (penL cs b r) (.inr "rest") = some (.int r) := rfl
theorem put_b (cs : List Int) (b r x : Int) : putD (penL cs b r) (.inr "begun") (.int x) = penL cs x r := rfl
theorem put_r (cs : List Int) (b r x : Int) : putD (penL cs b r) (.inr "rest") (.int x) = penL cs b x := rfl
theorem pen_l (cs : List Int) (b r : Int) : (penL cs b r).length < 1000 := by show 3 < 1000; decide
theorem draw1 (rs : List Ob) (cs : List Int) (b r m : Int) (hr : 0 < r) (hm : 0 < m) (hb : bits m < 9000) : f__law_draw [.loc 0, .int m] (.dct (penL cs b r) :: rs) = .ok (.int (r % m)) (.dct (penL cs b (r / m)) :: rs) := by
  simp [f__law_draw, fnM, m__law_draw, mSeq, mIfS, mBl, mBin, mGet, mVar, bnd, lift, DL.ret, mC, slots, pen_r, iGt, intF, optB, isBl, hr, mUn, fInt, mSet, mPut, iMod, iDiv, hm, hb, S.put, put_r, pen_l, mRet, endR]
theorem bits_lt {i : Int} {k : Nat} (h0 : 0 ≤ i) (h : i < 2 ^ k) : bits i < k + 1 := by
  unfold bits
  have h2 : i.natAbs < 2 ^ k := by
    have : ((i.natAbs : Nat) : Int) = i := Int.natAbs_of_nonneg h0
    have e : ((2 ^ k : Nat) : Int) = (2 : Int) ^ k := by simp
    omega
  by_cases z : i.natAbs = 0
  · rw [z]; simp
  · have := (Nat.log2_lt z).mpr h2
    omega
theorem mul_ok {i j : Int} (h0 : 0 ≤ i) (h1 : i < 2 ^ 64) (h2 : 0 ≤ j) (h3 : j < 2 ^ 64) : fMul (.int i) (.int j) = some (.int (i * j)) := by
  have a := bits_lt h0 h1
  have b := bits_lt h2 h3
  simp only [fMul, iMul, intF]
  rw [if_pos (by omega)]
/-- the cell that is drawn -/
def cellOf (cs : List Int) (b : Int) : Int := if 0 < (cs.length : Int) then cs[(b % cs.length).toNat]?.getD 0 else 73 * b + 19
def stirOf (c b : Int) : Int :=
  let s1 := (c % 4294967231 * 48271 + 30269 * b * b + 211) % 4294967279
  let s2 := (s1 * s1 + 69069 * s1 + 23 * b + 7) % 4294967291
  s2 * (s2 + 32771) % 4294967197 / 64
theorem mod_rng (a : Int) {m : Int} (h : 0 < m) : 0 ≤ a % m ∧ a % m < m := ⟨Int.emod_nonneg _ (by omega), Int.emod_lt_of_pos _ h⟩
theorem draw2 (rs : List Ob) (cs : List Int) (b m : Int) (h0 : 0 ≤ b) (h1 : b < 2 ^ 30) (hl : cs.length ≤ 1000) (hm : 0 < m) (hb : bits m < 9000) : f__law_draw [.loc 0, .int m] (.dct (penL cs b 0) :: rs) =
    if b < cs.length ∧ 1000000000000000000 ≤ (if cellOf cs b < 0 then -cellOf cs b else cellOf cs b) then .ok (.int (((if cellOf cs b < 0 then -cellOf cs b else cellOf cs b) - 1000000000000000000) % m)) (.dct (penL cs (b + 1) (((if cellOf cs b < 0 then -cellOf cs b else cellOf cs b) - 1000000000000000000) / m)) :: rs)
    else .ok (.int (stirOf (cellOf cs b) b % m)) (.dct (penL cs (b + 1) 0) :: rs) := by
  have k1 := mul_ok (i := 73) (j := b) (by omega) (by omega) (by omega) (by omega)
  have k2 := mul_ok (i := 30269) (j := b) (by omega) (by omega) (by omega) (by omega)
  have k3 := mul_ok (i := 30269 * b) (j := b) (by omega) (by omega) (by omega) (by omega)
  have k4 := mul_ok (i := 23) (j := b) (by omega) (by omega) (by omega) (by omega)
  obtain ⟨a1, a2⟩ := mod_rng (cellOf cs b) (m := 4294967231) (by omega)
  have k5 := mul_ok (i := cellOf cs b % 4294967231) (j := 48271) a1 (by omega) (by omega) (by omega)
  obtain ⟨b1, b2⟩ := mod_rng (cellOf cs b % 4294967231 * 48271 + 30269 * b * b + 211) (m := 4294967279) (by omega)
  generalize hs1 : (cellOf cs b % 4294967231 * 48271 + 30269 * b * b + 211) % 4294967279 = s1 at b1 b2
  have k6 := mul_ok (i := s1) (j := s1) b1 (by omega) b1 (by omega)
  have k7 := mul_ok (i := 69069) (j := s1) (by omega) (by omega) b1 (by omega)
  obtain ⟨c1, c2⟩ := mod_rng (s1 * s1 + 69069 * s1 + 23 * b + 7) (m := 4294967291) (by omega)
  generalize hs2 : (s1 * s1 + 69069 * s1 + 23 * b + 7) % 4294967291 = s2 at c1 c2
  have k8 := mul_ok (i := s2) (j := s2 + 32771) c1 (by omega) (by omega) (by omega)
  have k9 : bits 64 < 9000 := by decide
  have kp : iPow (.int 10) (.int 18) = some (.int (1000000000000000000)) := by simp [iPow, intF]
  have hst : stirOf (cellOf cs b) b = s2 * (s2 + 32771) % 4294967197 / 64 := by
    unfold stirOf
    simp only [hs1, hs2]
  rw [hst]
  generalize hC : cellOf cs b = c at *
  generalize hA : (if c < 0 then -c else c) = ab
  by_cases hz : 0 < cs.length
  · have hc2 : atI (cs.map D.int) (b % cs.length) = some (.int c) := by
      obtain ⟨q1, q2⟩ := mod_rng b (m := cs.length) (by omega)
      have e : ixN (cs.map D.int).length (b % cs.length) = some (b % cs.length).toNat := by
        unfold ixN
        simp only [List.length_map]
        rw [if_pos (by omega), if_pos (by omega)]
      unfold atI
      rw [e]
      have hlt : (b % (cs.length : Int)).toNat < cs.length := by omega
      simp only [Option.bind_some, List.getElem?_map, List.getElem?_eq_getElem hlt, Option.map_some]
      unfold cellOf at hC
      rw [if_pos (by omega), List.getElem?_eq_getElem hlt, Option.getD_some] at hC
      rw [hC]
    by_cases c1 : b < cs.length
    · by_cases c2 : 1000000000000000000 ≤ ab
      · simp [f__law_draw, fnM, m__law_draw, mSeq, mIfS, mBl, mBin, mGet, mVar, bnd, lift, DL.ret, mC, slots, pen_r, pen_b, pen_c, iGt, iLt, iGe, iSub, fAbs, intF, optB, isBl, mUn, fInt, mSet, mPut, iMod, iDiv, hm, hb, S.put, put_r, put_b, pen_l, mRet, endR, mPass, mPar, mCons, mNil, fLen, itD, fAdd, k1, k2, k3, k4, k5, k6, k7, k8, k9, kp, hs1, hs2, ixD, mLook, cur, mAndT, hc2, hz, c1, c2, hA]
      · simp [f__law_draw, fnM, m__law_draw, mSeq, mIfS, mBl, mBin, mGet, mVar, bnd, lift, DL.ret, mC, slots, pen_r, pen_b, pen_c, iGt, iLt, iGe, iSub, fAbs, intF, optB, isBl, mUn, fInt, mSet, mPut, iMod, iDiv, hm, hb, S.put, put_r, put_b, pen_l, mRet, endR, mPass, mPar, mCons, mNil, fLen, itD, fAdd, k1, k2, k3, k4, k5, k6, k7, k8, k9, kp, hs1, hs2, ixD, mLook, cur, mAndT, hc2, hz, c1, c2, hA]
    · simp [f__law_draw, fnM, m__law_draw, mSeq, mIfS, mBl, mBin, mGet, mVar, bnd, lift, DL.ret, mC, slots, pen_r, pen_b, pen_c, iGt, iLt, iGe, iSub, fAbs, intF, optB, isBl, mUn, fInt, mSet, mPut, iMod, iDiv, hm, hb, S.put, put_r, put_b, pen_l, mRet, endR, mPass, mPar, mCons, mNil, fLen, itD, fAdd, k1, k2, k3, k4, k5, k6, k7, k8, k9, kp, hs1, hs2, ixD, mLook, cur, mAndT, hc2, hz, c1, hA]
  · have e0 : cs = [] := by
      cases cs with
      | nil => rfl
      | cons a l => simp at hz
    subst e0
    have hc2 : 73 * b + 19 = c := by
      rw [← hC]; unfold cellOf; simp
    have c1 : ¬ b < 0 := by omega
    simp [f__law_draw, fnM, m__law_draw, mSeq, mIfS, mBl, mBin, mGet, mVar, bnd, lift, DL.ret, mC, slots, pen_r, pen_b, pen_c, iGt, iLt, iGe, iSub, fAbs, intF, optB, isBl, mUn, fInt, mSet, mPut, iMod, iDiv, hm, hb, S.put, put_r, put_b, pen_l, mRet, endR, mPass, mPar, mCons, mNil, fLen, itD, fAdd, k1, k2, k3, k4, k5, k6, k7, k8, k9, kp, hs1, hs2, ixD, mLook, cur, mAndT, hc2, c1, hA]
/-! ### the pen -/
def IsPen (B : Nat) (st : List Ob) : Prop := ∃ cs b r rs, st = .dct (penL cs b r) :: rs ∧ cs.length ≤ 1000 ∧ 0 ≤ b ∧ b ≤ (B : Int) ∧ 0 ≤ r
theorem IsPen.mono {B C : Nat} {st : List Ob} (h : IsPen B st) (l : B ≤ C) : IsPen C st := by
  obtain ⟨cs, b, r, rs, h1, h2, h3, h4, h5⟩ := h
  exact ⟨cs, b, r, rs, h1, h2, h3, by omega, h5⟩
theorem draw_spec {B : Nat} {st : List Ob} {m : Int} (h : IsPen B st) (hB : B < 2 ^ 30) (hm : 0 < m) (hm2 : m < 2 ^ 60) : ∃ k st', f__law_draw [.loc 0, .int m] st = .ok (.int k) st' ∧ 0 ≤ k ∧ k < m ∧ IsPen (B + 1) st' := by
  obtain ⟨cs, b, r, rs, rfl, h2, h3, h4, h5⟩ := h
  have hb : bits m < 9000 := by have := bits_lt (i := m) (k := 60) (by omega) hm2; omega
  by_cases hr : 0 < r
  · refine ⟨_, _, draw1 rs cs b r m hr hm hb, (mod_rng r hm).1, (mod_rng r hm).2, cs, b, _, rs, rfl, h2, h3, by omega, Int.ediv_nonneg (by omega) (by omega)⟩
  · have e : r = 0 := by omega
    subst e
    have hd := draw2 rs cs b m h3 (by omega) h2 hm hb
    generalize (if cellOf cs b < 0 then -cellOf cs b else cellOf cs b) = ab at hd
    split at hd
    · rename_i hc
      refine ⟨_, _, hd, (mod_rng _ hm).1, (mod_rng _ hm).2, cs, _, _, rs, rfl, h2, by omega, by omega, Int.ediv_nonneg ?_ (by omega)⟩
      have := hc.2
      omega
    · exact ⟨_, _, hd, (mod_rng _ hm).1, (mod_rng _ hm).2, cs, _, _, rs, rfl, h2, by omega, by omega, by omega⟩
theorem pen_eq (ns : List Int) (h : ns.length ≤ 63) : f__law_pen [.kl (ns.map .int)] [] = .ok (.loc 0) [.dct (penL ns 0 0)] := by
  have e : cutL (ns.map D.int) none (some 63) = ns.map .int := by
    unfold cutL
    have e1 : HT.sIx (ns.map D.int).length 0 none = 0 := rfl
    have e2 : HT.sIx (ns.map D.int).length (ns.map D.int).length (some 63) = (ns.map D.int).length := by
      simp [HT.sIx]
      omega
    rw [e1, e2, List.drop_zero, Nat.sub_zero, List.take_length]
  simp [f__law_pen, fnM, m__law_pen, mRet, mDict, mVals, mFz, mUnF, mSlN, mNoP, mPart, bnd, DL.ret, mC, slots, cur, lift, cutD, e, itD, endR, penL]
theorem atI_get {xs : List D} {k : Int} (h0 : 0 ≤ k) (h1 : k < xs.length) : ∃ d, atI xs k = some d ∧ d ∈ xs := by
  have hk : k.toNat < xs.length := by omega
  refine ⟨xs[k.toNat], ?_, List.getElem_mem hk⟩
  unfold atI ixN
  rw [if_pos h0, if_pos h1]
  simp [hk]
theorem pick_spec {B : Nat} {st : List Ob} {ds : List D} (h : IsPen B st) (hB : B < 2 ^ 30) (h0 : ds ≠ []) (hl : ds.length < 1000) : ∃ d st', f__law_pick [.loc 0, .lst ds] st = .ok d st' ∧ d ∈ ds ∧ IsPen (B + 1) st' := by
  have hp : 0 < ds.length := List.length_pos_iff.mpr h0
  obtain ⟨k, st', e, k0, k1, hp'⟩ := draw_spec (m := ds.length) h hB (by omega) (by omega)
  obtain ⟨d, hd, hm⟩ := atI_get k0 k1
  refine ⟨d, st', ?_, hm, hp'⟩
  simp [f__law_pick, fnM, m__law_pick, mRet, mIxN, mIxV, mCall, mCons, mNil, mVar, mUn, fLen, itD, mLook, cur, bnd, DL.ret, lift, slots, e, outR, ixD, hd, endR]
/-! ### shuffled -/
theorem pd_ints : ∀ (n : Nat) (ns : List Int), pds (pd n) (ns.map .int) = some (ns.map .int)
  | n, [] => rfl
  | n, a :: r => by
    have e : pd n (.int a) = some (.int a) := by cases n <;> rfl
    simp [pds, e, pd_ints n r]
theorem deq_ints (n : Nat) : ∀ (a b : List Int), deqs (deq n) (a.map .int) (b.map .int) = some (decide (a = b))
  | [], [] => rfl
  | [], b :: r => rfl
  | a :: r, [] => rfl
  | a :: r, b :: q => by
    have e : deq n (.int a) (.int b) = some (a == b) := by cases n <;> rfl
    simp only [List.map_cons, deqs, e, deq_ints n r q]
    by_cases h : a = b
    · subst h; simp
    · simp [h]
theorem ne_ints (a b : List Int) : fNe (.lst (a.map .int)) (.lst (b.map .int)) = some (.bl (!decide (a = b))) := by
  unfold fNe
  simp [pd, pd_ints, deq, deq_ints]
theorem eq_ints (a b : List Int) : fEq (.lst (a.map .int)) (.lst (b.map .int)) = some (.bl (decide (a = b))) := by
  simp [fEq, dEq, deq, deq_ints]
theorem neT_ints (a b : List Int) : fNe (.tup (a.map .int)) (.tup (b.map .int)) = some (.bl (!decide (a = b))) := by
  unfold fNe
  simp [pd, pd_ints, deq, deq_ints]
theorem perm_erase {ns : List Int} {k : Nat} (h : k < ns.length) : (ns.eraseIdx k ++ [ns[k]]).Perm ns := by
  have e : ns = ns.take k ++ ns[k] :: ns.drop (k + 1) := by simp
  rw [List.eraseIdx_eq_take_drop_succ]
  conv => rhs; rw [e]
  rw [List.append_assoc]
  refine List.Perm.append_left _ ?_
  exact List.perm_append_singleton _ _
theorem erase_map : ∀ (l : List Int) (k : Nat), (l.map D.int).eraseIdx k = (l.eraseIdx k).map .int
  | [], _ => rfl
  | a :: r, 0 => rfl
  | a :: r, k + 1 => by simp [erase_map r k]
theorem bnd_of {α β : Type} {m : S → DL.R α} {k : α → S → DL.R β} {s s' : S} {a : α} (h : m s = .ok a s') : bnd m k s = k a s' := by unfold bnd; rw [h]
theorem seq_nx {a b : MS} {s s' : S} (h : a s = .ok .nx s') : mSeq a b s = b s' := by unfold mSeq; rw [h]
theorem seq_rt {a b : MS} {s s' : S} {d : D} (h : a s = .ok (.rt d) s') : mSeq a b s = .ok (.rt d) s' := by unfold mSeq; rw [h]
theorem seq_exc {a b : MS} {s s' : S} {x : Exc} (h : a s = .exc x s') : mSeq a b s = .exc x s' := by unfold mSeq; rw [h]
theorem shuf_loop (P0 I0 : Slot) : ∀ (n : Nat) (B : Nat) (st : List Ob) (rest found : List Int), rest.length = n → IsPen B st → B + n < 2 ^ 30 → found.length + n < 1000 →
    ∃ (out : List Int) (st' : List Ob), mWhile (mBl (mNeV 2 (mFz (mLst mNil)))) (mExpr (mApp 3 (mPopAt 2 (mCall f__law_draw (mCons (mVar 0) (mCons (mUn fLen (mLook 2)) mNil)))))) ⟨[.imm (.loc 0), I0, .own (rest.map .int), .own (found.map .int)], st⟩ = .ok .nx ⟨[.imm (.loc 0), I0, .own [], .own (out.map .int)], st'⟩ ∧ out.Perm (found ++ rest) ∧ IsPen (B + n) st' := by
  intro n
  induction n with
  | zero =>
    intro B st rest found hn hp hB hl
    have e : rest = [] := List.length_eq_zero_iff.mp hn
    subst e
    refine ⟨found, st, ?_, by simp, hp⟩
    have e2 : fNe (.lst []) (.lst []) = some (.bl false) := ne_ints [] []
    rw [mWhile_eq]
    simp [mBl, mNeV, mFz, mLst, mNil, bnd, DL.ret, cur, few, lift, e2, optB, isBl]
  | succ n ih =>
    intro B st rest found hn hp hB hl
    obtain ⟨k, st1, e, k0, k1, hp1⟩ := draw_spec (m := rest.length) hp (by omega) (by omega) (by omega)
    have hk : k.toNat < rest.length := by omega
    obtain ⟨out, st2, e2, pm, hp2⟩ := ih (B + 1) st1 (rest.eraseIdx k.toNat) (found ++ [rest[k.toNat]]) (by rw [List.length_eraseIdx_of_lt hk]; omega) hp1 (by omega) (by simp; omega)
    refine ⟨out, st2, ?_, ?_, hp2.mono (by omega)⟩
    · have hne : rest ≠ [] := by intro z; subst z; simp at hn
      have e3 : fNe (.lst (rest.map .int)) (.lst []) = some (.bl true) := by
        have := ne_ints rest []
        simpa [hne] using this
      have sx : seqIndex? k rest.length = some k.toNat := by
        unfold seqIndex?
        have : ¬ k < 0 := by omega
        simp [this]
        omega
      have ge : (rest.map D.int)[k.toNat]? = some (.int rest[k.toNat]) := by simp [hk]
      have fw : found.length + 1 ≤ 1000000 := by omega
      have b1 : (-9223372036854775808 : Int) ≤ k := by omega
      have b2 : k < 9223372036854775808 := by omega
      rw [mWhile_eq]
      have body : mExpr (mApp 3 (mPopAt 2 (mCall f__law_draw (mCons (mVar 0) (mCons (mUn fLen (mLook 2)) mNil))))) ⟨[.imm (.loc 0), I0, .own (rest.map .int), .own (found.map .int)], st⟩ = .ok .nx ⟨[.imm (.loc 0), I0, .own ((rest.eraseIdx k.toNat).map .int), .own ((found ++ [rest[k.toNat]]).map .int)], st1⟩ := by
        simp [mExpr, mApp, mPopAt, mCall, mCons, mNil, mVar, mUn, fLen, itD, mLook, cur, bnd, DL.ret, lift, e, outR, sx, ge, S.put, few, fw, b1, b2, erase_map]
      have cond : mBl (mNeV 2 (mFz (mLst mNil))) ⟨[.imm (.loc 0), I0, .own (rest.map .int), .own (found.map .int)], st⟩ = .ok true ⟨[.imm (.loc 0), I0, .own (rest.map .int), .own (found.map .int)], st⟩ := by
        simp [mBl, mNeV, mFz, mLst, mNil, bnd, DL.ret, cur, few, lift, e3, optB, isBl]
      rw [bnd_of cond]
      simp only [if_true, body]
      exact e2
    · refine pm.trans ?_
      rw [List.append_assoc]
      refine List.Perm.append_left _ ?_
      refine List.Perm.trans ?_ (perm_erase hk)
      exact (List.perm_append_comm)
theorem shuf_spec {B : Nat} {st : List Ob} {ns : List Int} (h : IsPen B st) (hB : B + ns.length < 2 ^ 30) (hl : ns.length < 1000) : ∃ (out : List Int) (st' : List Ob), f__law_shuffled [.loc 0, .lst (ns.map .int)] st = .ok (.lst (out.map .int)) st' ∧ out.Perm ns ∧ IsPen (B + ns.length) st' := by
  obtain ⟨out, st', e, pm, hp⟩ := shuf_loop .emp (.imm (.lst (ns.map .int))) ns.length B st ns [] rfl h hB (by simp; omega)
  refine ⟨out, st', ?_, by simpa using pm, hp⟩
  unfold f__law_shuffled fnM m__law_shuffled
  rw [seq_nx (s' := ⟨[.imm (.loc 0), .imm (.lst (ns.map .int)), .own (ns.map .int), .own (([] : List Int).map .int)], st⟩) (by simp [mParFF, mUnF, itD, mLook, cur, bnd, DL.ret, mLst, mNil, few, slots, S.put]), seq_nx e]
  simp [mRet, mVar, bnd, S.put, DL.ret, endR]
/-! ### comprehensions that change nothing -/
theorem wipe_put {s : S} {i : Nat} {x : Slot} (h : s.sl[i]? = some .emp) : wipeS (s.put i x) [i] = s := by
  have hi : i < s.sl.length := (List.getElem?_eq_some_iff.mp h).1
  have e : s.sl[i] = .emp := (List.getElem?_eq_some_iff.mp h).2
  obtain ⟨sl, st⟩ := s
  simp only [wipeS, S.put, List.set_set]
  congr 1
  simp only at e hi
  rw [← e]
  exact List.set_getElem_self hi
theorem wipe_emp {s : S} {i : Nat} (h : s.sl[i]? = some .emp) : wipeS s [i] = s := by
  have e := wipe_put (x := .emp) h
  have e2 : s.put i .emp = s := by
    have hi : i < s.sl.length := (List.getElem?_eq_some_iff.mp h).1
    have e : s.sl[i] = .emp := (List.getElem?_eq_some_iff.mp h).2
    obtain ⟨sl, st⟩ := s
    simp only [S.put]
    congr 1
    simp only at e hi
    rw [← e]
    exact List.set_getElem_self hi
  rw [e2] at e
  exact e
theorem noX_put {s : S} {i : Nat} {d : D} (h : noX s = true) : noX (s.put i (.imm d)) = true := by
  unfold noX S.put at *
  rw [List.all_eq_true] at h ⊢
  intro x hx
  rcases List.mem_or_eq_of_mem_set hx with z | z
  · exact h x z
  · rw [z]
theorem lcs_map {i : Nat} {m : ME} {f : D → D} {s : S} (he : s.sl[i]? = some .emp) (hx : noX s = true) : ∀ (ds acc : List D), (∀ d ∈ ds, m (s.put i (.imm d)) = .ok (f d) (s.put i (.imm d))) → few (acc.length + ds.length) → lcs (gNm i) mYes m [i] acc ds s = .ok (acc ++ ds.map f) s
  | [], acc, _, _ => by simp [lcs]
  | d :: ds, acc, h, hf => by
    have h1 := h d List.mem_cons_self
    have f1 : few (acc.length + 1) := by unfold few at hf ⊢; simp at hf; omega
    have ih := lcs_map he hx ds (acc ++ [f d]) (fun x hx' => h x (List.mem_cons_of_mem _ hx')) (by unfold few at hf ⊢; simp at hf ⊢; omega)
    unfold lcs
    have y : mYes (s.put i (.imm d)) = .ok true (s.put i (.imm d)) := rfl
    simp only [gNm, S.puts, y, if_true, h1, f1, noX_put hx, and_self, wipe_put he]
    show lcs (gNm i) mYes m [i] (acc ++ [f d]) ds s = _
    rw [ih]
    simp
theorem lc_map {i : Nat} {it : MA} {m : ME} {f : D → D} {s0 s : S} {ds : List D} (hit : it s0 = .ok ds s) (he : s.sl[i]? = some .emp) (hx : noX s = true) (h : ∀ d ∈ ds, m (s.put i (.imm d)) = .ok (f d) (s.put i (.imm d))) (hf : few ds.length) : mLc it (gNm i) mYes m [i] s0 = .ok (ds.map f) s := by
  unfold mLc
  rw [bnd_of hit]
  simp only [hx, if_true, wipe_emp he]
  rw [lcs_map he hx ds [] h (by simpa using hf)]
  simp
/-! ### things -/
def isI : D → Bool
  | .int _ => true
  | _ => false
def eOk (d : D) : Bool := (tyD d).isSome
/-- things that may be asked -/
def thing : D → Bool
  | .tup xs => xs.all eOk && decide (xs.length ≤ 100)
  | d => (tyD d).isSome
theorem whole_ty {d : D} (h : eOk d = true) : ∃ t, tyD d = some t ∧ (subT t "int" && !subT t "bool") = isI d := by
  cases d <;> first | exact ⟨_, rfl, (by decide +kernel : _ = _)⟩ | exact ⟨_, rfl, by simp [subT, isI]⟩ | (simp [eOk, tyD] at h)
theorem whole_eq {d : D} {st : List Ob} (h : eOk d = true) : f__law_whole [d] st = .ok (.bl (isI d)) st := by
  obtain ⟨t, e, k⟩ := whole_ty h
  rw [← k]
  cases hA : subT t "int" <;> cases hB : subT t "bool" <;> simp [f__law_whole, fnM, m__law_whole, mRet, mAnd, mNot, mUn, mLook, cur, bnd, DL.ret, lift, slots, fIsi, e, hA, hB, tru, optB, endR]
theorem ints_all : ∀ {xs : List D}, xs.all isI = true → ∃ ns : List Int, xs = ns.map .int
  | [], _ => ⟨[], rfl⟩
  | d :: ds, h => by
    rw [List.all_cons, Bool.and_eq_true] at h
    obtain ⟨ns, e⟩ := ints_all h.2
    cases d with
    | int i => exact ⟨i :: ns, by rw [e]; rfl⟩
    | _ => cases h.1
theorem bls_map (f : D → Bool) : ∀ xs : List D, blsD (xs.map fun d => .bl (f d)) = some (xs.map f)
  | [] => rfl
  | d :: ds => by simp [blsD, bls_map f ds]
theorem ints_q : ∀ ns : List Int, intsD? (ns.map .int) = some ns
  | [] => rfl
  | a :: r => by simp [intsD?, ints_q r]
def rgI (n : Nat) : List Int := (List.range n).map fun (i : Nat) => (i : Int)
theorem rg_eq (n : Nat) : intsD 0 n = (rgI n).map .int := by
  unfold intsD rgI
  simp
/-- a renumbering -/
def good : D → Bool
  | .tup xs => match intsD? xs with
    | some ns => decide (sortI ns = rgI ns.length)
    | none => false
  | _ => false
theorem good_tup (ns : List Int) : good (.tup (ns.map .int)) = decide (sortI ns = rgI ns.length) := by
  simp [good, ints_q]
theorem good_not {xs : List D} (h : xs.all isI = false) : good (.tup xs) = false := by
  unfold good
  have : intsD? xs = none := by
    induction xs with
    | nil => cases h
    | cons d ds ih =>
      rw [List.all_cons] at h
      cases d with
      | int i =>
        have h2 : ds.all isI = false := h
        simp [intsD?, ih h2]
      | _ => simp [intsD?]
  simp [this]
theorem sort_len (ns : List Int) : (sortI ns).length = ns.length := (sortI_perm ns).length_eq
abbrev badX (d : D) : Exc := ⟨"BadRenumbering", [("numbers", d)]⟩
theorem checked_eq {d : D} {st : List Ob} (h : thing d = true) : f_checked [d] st = if good d = true then .ok d st else .exc (badX d) st := by
  cases d with
  | tup xs =>
    simp only [thing, Bool.and_eq_true, decide_eq_true_eq] at h
    obtain ⟨h1, h2⟩ := h
    rw [List.all_eq_true] at h1
    have hl : few xs.length := by unfold few; omega
    have c1 : mLc (mIt (mVar 0)) (gNm 1) mYes (mAnd (mUn (fIsi "int") (mLook 1)) (mNot (mUn (fIsi "bool") (mLook 1)))) [1] ⟨[.imm (.tup xs), .emp], st⟩ = .ok (xs.map fun d => .bl (isI d)) ⟨[.imm (.tup xs), .emp], st⟩ := by
      refine lc_map (s := ⟨[.imm (.tup xs), .emp], st⟩) (by simp [mIt, mVar, bnd, itD]) rfl rfl (fun d hd => ?_) hl
      obtain ⟨t, e, k⟩ := whole_ty (h1 d hd)
      rw [← k]
      cases hA : subT t "int" <;> cases hB : subT t "bool" <;> simp [mAnd, mNot, mUn, mLook, cur, bnd, DL.ret, lift, S.put, fIsi, e, hA, hB, tru, optB]
    have a1 : fAll (.lst (xs.map fun d => .bl (isI d))) = some (.bl (xs.all isI)) := by
      simp only [fAll, bls_map, Option.map_some]
      rw [List.all_map]; rfl
    unfold f_checked fnM m_checked
    generalize hM1 : mLc (mIt (mVar 0)) (gNm 1) mYes (mAnd (mUn (fIsi "int") (mLook 1)) (mNot (mUn (fIsi "bool") (mLook 1)))) [1] = M1 at c1 ⊢
    generalize hL : (xs.map fun d => D.bl (isI d)) = L at c1 a1
    cases hA : xs.all isI with
    | false =>
      rw [good_not hA]
      rw [hA] at a1
      simp [mSeq, mIfS, mOrT, mNotT, mTru, mUn, fIsi, tyD, subT, mLook, cur, bnd, DL.ret, lift, slots, optB, tru, mFz, c1, a1, mRaise, mVar, endR]
    | true =>
      obtain ⟨ns, rfl⟩ := ints_all hA
      rw [hA] at a1
      rw [good_tup]
      simp only [List.length_map] at h2
      have c2 : mLc (mIt (mVar 0)) (gNm 1) mYes (mUn fInt (mLook 1)) [1] ⟨[.imm (.tup (ns.map .int)), .emp], st⟩ = .ok (ns.map .int) ⟨[.imm (.tup (ns.map .int)), .emp], st⟩ := by
        have := lc_map (f := id) (i := 1) (it := mIt (mVar 0)) (m := mUn fInt (mLook 1)) (s0 := ⟨[.imm (.tup (ns.map .int)), .emp], st⟩) (s := ⟨[.imm (.tup (ns.map .int)), .emp], st⟩) (ds := ns.map .int) (by simp [mIt, mVar, bnd, itD]) rfl rfl (fun d hd => by
          obtain ⟨n, _, rfl⟩ := List.mem_map.mp hd
          simp [mUn, mLook, cur, bnd, DL.ret, S.put, fInt, lift]) hl
        simpa using this
      generalize hM2 : mLc (mIt (mVar 0)) (gNm 1) mYes (mUn fInt (mLook 1)) [1] = M2 at c2 ⊢
      have r1 : (ns.length : Int) ≤ 1000000 := by omega
      have r2 : (-1000000 : Int) ≤ ns.length := by omega
      have q1 : fSortI (.lst (ns.map .int)) = some ((sortI ns).map .int) := by simp [fSortI, ints_q]
      by_cases hg : sortI ns = rgI ns.length
      · simp [mSeq, mIfS, mOrT, mNotT, mTru, mUn, mUnF, fIsi, tyD, subT, mLook, cur, bnd, DL.ret, lift, slots, optB, tru, mFz, c1, a1, mRet, mC, endR, mPass, mBin, c2, q1, fLen, itD, rgD, r1, r2, rg_eq, ne_ints, hg, mBl, isBl, mVar]
      · simp [mSeq, mIfS, mOrT, mNotT, mTru, mUn, mUnF, fIsi, tyD, subT, mLook, cur, bnd, DL.ret, lift, slots, optB, tru, mFz, c1, a1, mRet, mC, endR, mPass, mBin, c2, q1, fLen, itD, rgD, r1, r2, rg_eq, ne_ints, hg, mBl, isBl, mVar, mRaise]
  | loc n => simp [thing, tyD] at h
  | ins c fs => simp [thing, tyD] at h
  | _ => simp [f_checked, fnM, m_checked, mSeq, mIfS, mOrT, mNotT, mTru, mUn, fIsi, tyD, subT, mLook, cur, bnd, DL.ret, lift, slots, optB, tru, mRaise, mVar, endR, good]
theorem rgI_sorted (n : Nat) : (rgI n).Pairwise (· ≤ ·) := by
  unfold rgI
  rw [List.pairwise_map]
  exact List.pairwise_lt_range.imp fun h => by omega
theorem rgI_len (n : Nat) : (rgI n).length = n := by simp [rgI]
theorem rgI_mem {n : Nat} {x : Int} : x ∈ rgI n ↔ 0 ≤ x ∧ x < n := by
  unfold rgI
  rw [List.mem_map]
  constructor
  · rintro ⟨a, ha, rfl⟩
    rw [List.mem_range] at ha
    omega
  · intro h
    exact ⟨x.toNat, List.mem_range.mpr (by omega), by omega⟩
/-- a renumbering of size n -/
def Pm (n : Nat) (p : List Int) : Prop := p.Perm (rgI n)
theorem Pm.len {n : Nat} {p : List Int} (h : Pm n p) : p.length = n := h.length_eq.trans (rgI_len n)
theorem Pm.mem {n : Nat} {p : List Int} (h : Pm n p) {x : Int} (m : x ∈ p) : 0 ≤ x ∧ x < n := rgI_mem.mp (h.subset m)
theorem Pm.good {n : Nat} {p : List Int} (h : Pm n p) : good (.tup (p.map .int)) = true := by
  rw [good_tup, h.len]
  exact decide_eq_true (perm_sorted_eq ((sortI_perm p).trans h) (sortI_sorted p) (rgI_sorted n))
theorem good_pm {p : List Int} (h : good (.tup (p.map .int)) = true) : Pm p.length p := by
  rw [good_tup] at h
  have e := of_decide_eq_true h
  exact (sortI_perm p).symm.trans (e ▸ List.Perm.refl _)
theorem good_is {d : D} (h : good d = true) : ∃ p : List Int, d = .tup (p.map .int) ∧ Pm p.length p := by
  cases d with
  | tup xs =>
    cases hA : xs.all isI with
    | false => rw [good_not hA] at h; cases h
    | true =>
      obtain ⟨p, rfl⟩ := ints_all hA
      exact ⟨p, rfl, good_pm h⟩
  | _ => cases h
theorem thing_ints {p : List Int} (h : p.length ≤ 100) : thing (.tup (p.map .int)) = true := by
  simp [thing, eOk, tyD, h]
def gI (p : List Int) (q : Int) : Int := p[q.toNat]?.getD 0
theorem atI_int {p : List Int} {q : Int} (h0 : 0 ≤ q) (h1 : q < p.length) : atI (p.map D.int) q = some (.int (gI p q)) := by
  have hk : q.toNat < p.length := by omega
  unfold atI ixN gI
  rw [if_pos h0, if_pos (by simpa using h1)]
  simp [hk]
theorem after_eq {ps qs : List Int} {st : List Ob} (h : ∀ q ∈ qs, 0 ≤ q ∧ q < ps.length) (hl : qs.length ≤ 100) : f_after [.tup (ps.map .int), .tup (qs.map .int)] st = .ok (.tup ((qs.map (gI ps)).map .int)) st := by
  have c := lc_map (i := 2) (it := mIt (mVar 1)) (m := mIxN 0 (mVar 2)) (f := fun d => match d with | .int q => .int (gI ps q) | d => d) (s0 := ⟨[.imm (.tup (ps.map .int)), .imm (.tup (qs.map .int)), .emp], st⟩) (s := ⟨[.imm (.tup (ps.map .int)), .imm (.tup (qs.map .int)), .emp], st⟩) (ds := qs.map .int) (by simp [mIt, mVar, bnd, itD]) rfl rfl (fun d hd => by
    obtain ⟨q, hq, rfl⟩ := List.mem_map.mp hd
    obtain ⟨h0, h1⟩ := h q hq
    simp [mIxN, mIxV, mVar, cur, bnd, DL.ret, S.put, lift, ixD, atI_int h0 h1]) (by unfold few; simp; omega)
  have e : (qs.map D.int).map (fun d => match d with | .int q => D.int (gI ps q) | d => d) = (qs.map (gI ps)).map .int := by simp
  rw [e] at c
  unfold f_after fnM m_after
  generalize mLc (mIt (mVar 1)) (gNm 2) mYes (mIxN 0 (mVar 2)) [2] = M at c ⊢
  generalize (qs.map (gI ps)).map D.int = out at c ⊢
  simp [mRet, mUn, fTuple, itD, mFz, bnd, DL.ret, lift, slots, c, endR]
theorem sized_bad {d : D} {n : Int} {st : List Ob} (h : thing d = true) (hg : good d = false) : f_sized [d, .int n] st = .exc (badX d) st := by
  have e := checked_eq (st := st) h
  rw [hg] at e
  simp [f_sized, fnM, m_sized, mSeq, mIfS, mBl, mBin, mUn, mCall, mCons, mNil, mVar, bnd, DL.ret, slots, e, outR, endR]
theorem sized_ok {p : List Int} {n : Int} {st : List Ob} (hl : p.length ≤ 100) (hg : good (.tup (p.map .int)) = true) : f_sized [.tup (p.map .int), .int n] st = if (p.length : Int) = n then .ok (.tup (p.map .int)) st else .exc (badX (.tup (p.map .int))) st := by
  have e := checked_eq (st := st) (thing_ints hl)
  rw [hg] at e
  have e2 : fNe (.int p.length) (.int n) = some (.bl (!decide ((p.length : Int) = n))) := by
    unfold fNe
    simp [pd, deq, sc]
    rfl
  by_cases hn : (p.length : Int) = n
  · subst hn
    simp only [decide_true, Bool.not_true] at e2
    simp [f_sized, fnM, m_sized, mSeq, mIfS, mBl, mBin, mUn, mCall, mCons, mNil, mVar, bnd, DL.ret, slots, e, outR, endR, fLen, itD, e2, lift, optB, isBl, mPass, mRet]
  · simp [f_sized, fnM, m_sized, mSeq, mIfS, mBl, mBin, mUn, mCall, mCons, mNil, mVar, bnd, DL.ret, slots, e, outR, endR, fLen, itD, e2, hn, lift, optB, isBl, mPass, mRet, mRaise]
theorem comp_bad1 {a b : D} {st : List Ob} (h : thing a = true) (hg : good a = false) : f_compose [a, b] st = .exc (badX a) st := by
  have e := checked_eq (st := st) h
  rw [hg] at e
  simp [f_compose, fnM, m_compose, mSeq, mExpr, mCall, mCons, mNil, mVar, bnd, DL.ret, slots, e, outR, endR]
theorem comp_bad2 {p : List Int} {b : D} {st : List Ob} (hl : p.length ≤ 100) (hg : good (.tup (p.map .int)) = true) (h : f_sized [b, .int p.length] st = .exc (badX b) st) : f_compose [.tup (p.map .int), b] st = .exc (badX b) st := by
  have e := checked_eq (st := st) (thing_ints hl)
  rw [hg] at e
  simp [f_compose, fnM, m_compose, mSeq, mExpr, mCall, mCons, mNil, mVar, bnd, DL.ret, slots, e, outR, endR, mRet, mUn, fLen, itD, mLook, cur, lift, h]
theorem comp_ok {n : Nat} {p q : List Int} {st : List Ob} (hn : n ≤ 100) (hp : Pm n p) (hq : Pm n q) : f_compose [.tup (p.map .int), .tup (q.map .int)] st = .ok (.tup ((q.map (gI p)).map .int)) st := by
  have lp := hp.len
  have lq := hq.len
  have e := checked_eq (st := st) (thing_ints (p := p) (by omega))
  rw [hp.good] at e
  have e2 := sized_ok (p := q) (n := p.length) (st := st) (by omega) hq.good
  rw [if_pos (by omega)] at e2
  have e3 := after_eq (ps := p) (qs := q) (st := st) (fun x hx => by have := hq.mem hx; omega) (by omega)
  generalize (q.map (gI p)).map D.int = out at e3 ⊢
  simp [f_compose, fnM, m_compose, mSeq, mExpr, mCall, mCons, mNil, mVar, bnd, DL.ret, slots, e, outR, endR, mRet, mUn, fLen, itD, mLook, cur, lift, e2, e3]
theorem map_gI_id (p : List Int) : (rgI p.length).map (gI p) = p := by
  unfold rgI gI
  rw [List.map_map]
  refine List.ext_getElem (by simp) fun i h1 h2 => ?_
  simp [List.getElem?_eq_getElem h2]
theorem Pm.comp {n : Nat} {p q : List Int} (hp : Pm n p) (hq : Pm n q) : Pm n (q.map (gI p)) := by
  have h1 : (q.map (gI p)).Perm ((rgI n).map (gI p)) := hq.map _
  rw [← hp.len, map_gI_id] at h1
  exact h1.trans hp
/-! ### back -/
def invL : List Int → Nat → List Int → List Int
  | pl, _, [] => pl
  | pl, k, x :: xs => invL (pl.set x.toNat k) (k + 1) xs
theorem set_map (l : List Int) (i : Nat) (x : Int) : (l.map D.int).set i (.int x) = (l.set i x).map .int := by
  rw [List.map_set]
theorem back_loop (st : List Ob) (P0 : Slot) : ∀ (xs pl : List Int) (k : Nat) (a b : Slot), (∀ x ∈ xs, 0 ≤ x ∧ x < pl.length) →
    ∃ a' b', fo (gTp 2 (gsCons (gNm 2) (gsCons (gNm 3) gsNil))) (mSetIx 1 (mVar 3) (mVar 2)) (((xs.map D.int).zipIdx k).map fun p => .tup [.int (p.2 : Nat), p.1]) ⟨[P0, .own (pl.map .int), a, b], st⟩ = .ok .nx ⟨[P0, .own ((invL pl k xs).map .int), a', b'], st⟩
  | [], pl, k, a, b, _ => ⟨a, b, rfl⟩
  | x :: xs, pl, k, a, b, h => by
    obtain ⟨h0, h1⟩ := h x List.mem_cons_self
    obtain ⟨a', b', ih⟩ := back_loop st P0 xs (pl.set x.toNat k) (k + 1) (.imm (.int k)) (.imm (.int x)) (fun y hy => by rw [List.length_set]; exact h y (List.mem_cons_of_mem _ hy))
    refine ⟨a', b', ?_⟩
    have ix : ixN (pl.map D.int).length x = some x.toNat := by
      unfold ixN
      rw [if_pos h0, if_pos (by simpa using h1)]
    have bd : mSetIx 1 (mVar 3) (mVar 2) ⟨[P0, .own (pl.map .int), .imm (.int k), .imm (.int x)], st⟩ = .ok .nx ⟨[P0, .own ((pl.set x.toNat k).map .int), .imm (.int k), .imm (.int x)], st⟩ := by
      simp only [List.length_map] at ix
      simp [mSetIx, mVar, bnd, DL.ret, S.put, ix]
    simp only [List.map_cons, List.zipIdx_cons, fo, gTp, gsCons, gsNil, gNm, List.length_cons, List.length_nil, if_true, List.cons_append, List.nil_append, S.puts, S.put, List.set_cons_succ, List.set_cons_zero, bd]
    exact ih
theorem rp0 {n : Nat} (hl : n ≤ 100) : lRepL (.lst [.int 0]) (.int n) = some ((List.replicate n (0 : Int)).map .int) := by
  simp only [lRepL]
  rw [if_pos ⟨by omega, by omega, by unfold few; simp; omega⟩]
  simp [List.flatten_replicate_singleton]
theorem back_gen {lr : D → D → Option (List D)} {d k : D} {z ds out : List D} {a' b' : Slot} {st : List Ob} {fr : MG} {bd : MS} (hd : fLen d = some k) (rp : lr (.lst [.int 0]) k = some z) (hi : itD d = some ds) (e : fo fr bd (enumD ds) ⟨[.imm d, .own z, .emp, .emp], st⟩ = .ok .nx ⟨[.imm d, .own out, a', b'], st⟩) :
    fnM 4 (mSeq (mOwn 1 (mBinF lr (mFz (mLst (mCons (mC (.int 0)) mNil))) (mUn fLen (mLook 0)))) (mSeq (mFor (mEnum (mVar 0)) fr bd) (mRet (mUn fTuple (mLook 1))))) [d] st = .ok (.tup out) st := by
  have h1 : mOwn 1 (mBinF lr (mFz (mLst (mCons (mC (.int 0)) mNil))) (mUn fLen (mLook 0))) ⟨slots 4 [d], st⟩ = .ok .nx ⟨[.imm d, .own z, .emp, .emp], st⟩ := by
    have f1 : few 1 := by decide
    simp [mOwn, mBinF, mFz, mLst, mCons, mC, mNil, mUn, mLook, cur, bnd, DL.ret, f1, lift, slots, hd, rp, S.put]
  have h2 : mFor (mEnum (mVar 0)) fr bd ⟨[.imm d, .own z, .emp, .emp], st⟩ = .ok .nx ⟨[.imm d, .own out, a', b'], st⟩ := by
    unfold mFor
    rw [bnd_of (a := enumD ds) (s' := ⟨[.imm d, .own z, .emp, .emp], st⟩) (by simp [mEnum, mVar, bnd, hi])]
    exact e
  unfold fnM
  rw [seq_nx h1, seq_nx h2]
  simp [mRet, mUn, fTuple, itD, mLook, cur, bnd, DL.ret, lift, endR]
theorem back_eq {p : List Int} {st : List Ob} (h : ∀ x ∈ p, 0 ≤ x ∧ x < p.length) (hl : p.length ≤ 100) : f_back [.tup (p.map .int)] st = .ok (.tup ((invL (List.replicate p.length 0) 0 p).map .int)) st := by
  obtain ⟨a', b', e⟩ := back_loop st (.imm (.tup (p.map .int))) p (List.replicate p.length 0) 0 .emp .emp (by simpa using h)
  have hd : fLen (.tup (p.map .int)) = some (.int p.length) := by simp [fLen, itD]
  exact back_gen hd (rp0 hl) rfl e
theorem inv_gen {fb fc : Fn} {d d2 : D} {st : List Ob} (e : fc [d] st = .ok d st) (e2 : fb [d] st = .ok d2 st) : fnM 1 (mRet (mCall fb (mCons (mCall fc (mCons (mVar 0) mNil)) mNil))) [d] st = .ok d2 st := by
  simp [fnM, mRet, mCall, mCons, mNil, mVar, bnd, DL.ret, slots, e, outR, e2, endR]
theorem inv_genX {fb fc : Fn} {d : D} {x : Exc} {st : List Ob} (e : fc [d] st = .exc x st) : fnM 1 (mRet (mCall fb (mCons (mCall fc (mCons (mVar 0) mNil)) mNil))) [d] st = .exc x st := by
  simp [fnM, mRet, mCall, mCons, mNil, mVar, bnd, DL.ret, slots, e, outR, endR]
theorem inv_ok {n : Nat} {p : List Int} {st : List Ob} (hn : n ≤ 100) (hp : Pm n p) : f_inverse [.tup (p.map .int)] st = .ok (.tup ((invL (List.replicate n 0) 0 p).map .int)) st := by
  have lp := hp.len
  have e := checked_eq (st := st) (thing_ints (p := p) (by omega))
  rw [hp.good, if_pos rfl] at e
  have e2 := back_eq (p := p) (st := st) (fun x hx => by have := hp.mem hx; omega) (by omega)
  rw [lp] at e2
  exact inv_gen e e2
theorem inv_bad {d : D} {st : List Ob} (h : thing d = true) (hg : good d = false) : f_inverse [d] st = .exc (badX d) st := by
  have e := checked_eq (st := st) h
  rw [hg, if_neg (by decide)] at e
  exact inv_genX e
/-! all renumberings of fewer than five -/
def lists (vals : List Int) : Nat → List (List Int)
  | 0 => [[]]
  | n + 1 => vals.flatMap fun a => (lists vals n).map (a :: ·)
theorem mem_lists {vals : List Int} : ∀ {n : Nat} {p : List Int}, p.length = n → (∀ x ∈ p, x ∈ vals) → p ∈ lists vals n
  | 0, p, h, _ => by rw [List.length_eq_zero_iff.mp h]; exact List.mem_singleton.mpr rfl
  | n + 1, [], h, _ => by cases h
  | n + 1, a :: r, h, hv => by
    unfold lists
    rw [List.mem_flatMap]
    exact ⟨a, hv a List.mem_cons_self, List.mem_map.mpr ⟨r, mem_lists (by simpa using h) (fun x hx => hv x (List.mem_cons_of_mem _ hx)), rfl⟩⟩
def chk (n : Nat) (p : List Int) : Bool :=
  let q := invL (List.replicate n 0) 0 p
  q.isPerm (rgI n) && (decide (q.map (gI p) = rgI n) && (decide (p.map (gI q) = rgI n) && (rgI n).all fun i => decide (gI q (gI p i) = i)))
theorem chk_all : ((List.range 5).all fun n => (lists (rgI n) n).all fun p => !(p.isPerm (rgI n)) || chk n p) = true := by decide +kernel
theorem chk_pm {n : Nat} {p : List Int} (hn : n < 5) (hp : Pm n p) : Pm n (invL (List.replicate n 0) 0 p) ∧ (invL (List.replicate n 0) 0 p).map (gI p) = rgI n ∧ p.map (gI (invL (List.replicate n 0) 0 p)) = rgI n ∧ ∀ i ∈ rgI n, gI (invL (List.replicate n 0) 0 p) (gI p i) = i := by
  have h := chk_all
  rw [List.all_eq_true] at h
  have h1 := h n (List.mem_range.mpr hn)
  rw [List.all_eq_true] at h1
  have h2 := h1 p (mem_lists hp.len fun x hx => hp.subset hx)
  have h3 : p.isPerm (rgI n) = true := List.isPerm_iff.mpr hp
  rw [h3] at h2
  have h4 : chk n p = true := by simpa using h2
  unfold chk at h4
  simp only [Bool.and_eq_true, decide_eq_true_eq] at h4
  obtain ⟨a1, a2, a3, a4⟩ := h4
  refine ⟨List.isPerm_iff.mp a1, a2, a3, fun i hi => ?_⟩
  rw [List.all_eq_true] at a4
  exact of_decide_eq_true (a4 i hi)
end LC

namespace LC
open PySem L2 DL
/-! ### the closure of renumberings -/
/-- r after p -/
def act (r p : List Int) : List Int := p.map (gI r)
inductive Cl (n : Nat) (R : List (List Int)) : List Int → Prop
  | one : Cl n R (rgI n)
  | step {r p : List Int} : r ∈ R → Cl n R p → Cl n R (act r p)
theorem rgI_pm (n : Nat) : Pm n (rgI n) := List.Perm.refl _
theorem act_pm {n : Nat} {r p : List Int} (hr : Pm n r) (hp : Pm n p) : Pm n (act r p) := hr.comp hp
theorem Cl.pm {n : Nat} {R : List (List Int)} (hR : ∀ r ∈ R, Pm n r) {p : List Int} (h : Cl n R p) : Pm n p := by
  induction h with
  | one => exact rgI_pm n
  | step hr _ ih => exact act_pm (hR _ hr) ih
theorem act_assoc {n : Nat} {a b c : List Int} (hb : Pm n b) (hc : Pm n c) : act (act a b) c = act a (act b c) := by
  unfold act
  rw [List.map_map]
  refine List.map_congr_left fun i hi => ?_
  obtain ⟨h0, h1⟩ := hc.mem hi
  have lb := hb.len
  have hk : i.toNat < b.length := by omega
  simp [gI, hk]
theorem gI_rg {n : Nat} {i : Int} (h0 : 0 ≤ i) (h1 : i < n) : gI (rgI n) i = i := by
  unfold gI rgI
  have hk : i.toNat < n := by omega
  simp [hk]
  omega
theorem act_one {n : Nat} {p : List Int} (hp : Pm n p) : act (rgI n) p = p := by
  unfold act
  have : p.map (gI (rgI n)) = p.map id := List.map_congr_left fun i hi => by
    obtain ⟨h0, h1⟩ := hp.mem hi
    exact gI_rg h0 h1
  rw [this, List.map_id]
theorem act_id {n : Nat} {p : List Int} (hp : Pm n p) : act p (rgI n) = p := by
  have := map_gI_id p
  rw [hp.len] at this
  exact this
theorem Cl.mul {n : Nat} {R : List (List Int)} (hR : ∀ r ∈ R, Pm n r) {g h : List Int} (hg : Cl n R g) (hh : Cl n R h) : Cl n R (act g h) := by
  induction hg with
  | one => rw [act_one (hh.pm hR)]; exact hh
  | step hr hp ih =>
    rw [act_assoc (hp.pm hR) (hh.pm hR)]
    exact .step hr ih
theorem Cl.self {n : Nat} {R G : List (List Int)} (hR : ∀ r ∈ R, Pm n r) (hG : ∀ r, r ∈ G ↔ Cl n R r) (p : List Int) : Cl n G p ↔ Cl n R p := by
  constructor
  · intro h
    induction h with
    | one => exact .one
    | step hr _ ih => exact Cl.mul hR ((hG _).mp hr) ih
  · intro h
    have e := act_id (h.pm hR)
    rw [← e]
    exact .step ((hG _).mpr h) .one
theorem Cl.congr {n : Nat} {R R' : List (List Int)} (h : ∀ r, r ∈ R ↔ r ∈ R') (p : List Int) : Cl n R p ↔ Cl n R' p := by
  constructor
  · intro c
    induction c with
    | one => exact .one
    | step hr _ ih => exact .step ((h _).mp hr) ih
  · intro c
    induction c with
    | one => exact .one
    | step hr _ ih => exact .step ((h _).mpr hr) ih
theorem Cl.of_closed {n : Nat} {R F : List (List Int)} (h1 : rgI n ∈ F) (h2 : ∀ p ∈ F, ∀ r ∈ R, act r p ∈ F) (h3 : ∀ p ∈ F, Cl n R p) (p : List Int) : p ∈ F ↔ Cl n R p := by
  refine ⟨h3 p, fun h => ?_⟩
  induction h with
  | one => exact h1
  | step hr _ ih => exact h2 _ ih _ hr
/-! ### all renumberings of fewer than five -/
def permsL (n : Nat) : List (List Int) := (lists (rgI n) n).filter fun p => p.isPerm (rgI n)
theorem mem_permsL {n : Nat} {p : List Int} : p ∈ permsL n ↔ Pm n p := by
  unfold permsL
  rw [List.mem_filter]
  constructor
  · exact fun h => List.isPerm_iff.mp h.2
  · exact fun h => ⟨mem_lists h.len fun x hx => h.subset hx, List.isPerm_iff.mpr h⟩
theorem permsL_len {n : Nat} (hn : n < 5) : (permsL n).length ≤ 24 := by
  have h : ((List.range 5).all fun n => decide ((permsL n).length ≤ 24)) = true := by decide +kernel
  rw [List.all_eq_true] at h
  exact of_decide_eq_true (h n (List.mem_range.mpr hn))
theorem nodup_len {α : Type} [DecidableEq α] : ∀ {l m : List α}, l.Nodup → (∀ x ∈ l, x ∈ m) → l.length ≤ m.length
  | [], _, _, _ => Nat.zero_le _
  | a :: t, m, h, s => by
    rw [List.nodup_cons] at h
    have ha := s a List.mem_cons_self
    have ih := nodup_len (m := m.erase a) h.2 fun x hx => (List.mem_erase_of_ne (by rintro rfl; exact h.1 hx)).mpr (s x (List.mem_cons_of_mem _ hx))
    rw [List.length_erase_of_mem ha] at ih
    have := List.length_pos_of_mem ha
    rw [List.length_cons]
    omega
theorem pm_len {n : Nat} (hn : n < 5) {F : List (List Int)} (h : F.Nodup) (hp : ∀ p ∈ F, Pm n p) : F.length ≤ 24 :=
  Nat.le_trans (nodup_len h fun x hx => mem_permsL.mpr (hp x hx)) (permsL_len hn)
open Classical in
/-- the group of the rows -/
noncomputable def grp (n : Nat) (R : List (List Int)) : List (List Int) := (permsL n).filter fun p => decide (Cl n R p)
open Classical in
theorem mem_grp {n : Nat} {R : List (List Int)} (hR : ∀ r ∈ R, Pm n r) {p : List Int} : p ∈ grp n R ↔ Cl n R p := by
  unfold grp
  rw [List.mem_filter, mem_permsL]
  constructor
  · exact fun h => of_decide_eq_true h.2
  · exact fun h => ⟨h.pm hR, decide_eq_true h⟩
open Classical in
theorem grp_congr {n : Nat} {R R' : List (List Int)} (h : ∀ p, Cl n R p ↔ Cl n R' p) : grp n R = grp n R' := by
  unfold grp
  refine List.filter_congr fun p _ => ?_
  by_cases c : Cl n R p
  · rw [decide_eq_true c, decide_eq_true ((h p).mp c)]
  · rw [decide_eq_false c, decide_eq_false fun z => c ((h p).mpr z)]
theorem grp_self {n : Nat} {R : List (List Int)} (hR : ∀ r ∈ R, Pm n r) : grp n (grp n R) = grp n R := grp_congr (Cl.self hR fun r => mem_grp hR)
open Classical in
theorem grp_filter {n : Nat} {R F : List (List Int)} (h : ∀ p, p ∈ F ↔ Cl n R p) : (permsL n).filter (fun p => decide (p ∈ F)) = grp n R := by
  unfold grp
  refine List.filter_congr fun p _ => ?_
  by_cases c : Cl n R p
  · rw [decide_eq_true c, decide_eq_true ((h p).mpr c)]
  · rw [decide_eq_false c, decide_eq_false fun z => c ((h p).mp z)]
abbrev tp (p : List Int) : D := .tup (p.map .int)
end LC

namespace LC
open PySem L2 DL
theorem keyL_ints : ∀ p : List Int, keyL (p.map .int) = some (p.map Sum.inl)
  | [] => rfl
  | a :: r => by simp [keyL, key1, keyL_ints r]
theorem keyD_tp (p : List Int) : keyD (tp p) = some (p.map Sum.inl) := keyL_ints p
def kvF (F : List (List Int)) : List (List Key × D) := F.map fun p => (p.map Sum.inl, .bl true)
theorem inl_inj : ∀ {p q : List Int}, p.map (Sum.inl : Int → Key) = q.map Sum.inl → p = q
  | [], [], _ => rfl
  | [], _ :: _, h => by simp at h
  | _ :: _, [], h => by simp at h
  | a :: p, b :: q, h => by
    simp only [List.map_cons, List.cons.injEq, Sum.inl.injEq] at h
    rw [h.1, inl_inj h.2]
theorem val_kv {F : List (List Int)} {p : List Int} : (valD (kvF F) (p.map Sum.inl)).isSome = decide (p ∈ F) := by
  induction F with
  | nil => rfl
  | cons q F ih =>
    unfold valD kvF at ih ⊢
    rw [List.map_cons, List.find?_cons]
    by_cases e : q = p
    · subst e
      simp
    · have : (q.map (Sum.inl : Int → Key) = p.map Sum.inl) = False := eq_false fun h => e (inl_inj h)
      simp only [this, decide_false]
      rw [ih]
      simp [Ne.symm e]
theorem put_kv {F : List (List Int)} {p : List Int} (h : p ∉ F) : putD (kvF F) (p.map Sum.inl) (.bl true) = kvF (F ++ [p]) := by
  unfold putD
  have : ((kvF F).any fun kv => decide (kv.1 = p.map Sum.inl)) = false := by
    rw [List.any_eq_false]
    intro kv hk
    unfold kvF at hk
    obtain ⟨q, hq, rfl⟩ := List.mem_map.mp hk
    simp only [decide_eq_true_eq]
    exact fun e => h (inl_inj e ▸ hq)
  rw [this]
  simp [kvF]
theorem get_end {α : Type} (l : List α) (x : α) : (l ++ [x])[l.length]? = some x := by simp
theorem set_end {α : Type} (l : List α) (x y : α) : (l ++ [x]).set l.length y = l ++ [y] := by simp
theorem kv_len (F : List (List Int)) : (kvF F).length = F.length := by simp [kvF]
abbrev gbody (fa : Fn) : MS := mSeq (mSet 7 (mCall fa (mCons (mVar 2) (mCons (mVar 6) mNil)))) (mIfS (mBl (mHas true (mVar 7) (mVar 4))) (mSeq (mPutT (mVar 4) (mVar 7) (mC (.bl true))) (mExpr (mApp 5 (mVar 7)))) mPass)
abbrev gS (n rows start : D) (st0 : List Ob) (F W : List (List Int)) (r2 r6 r7 : Slot) : S := ⟨[.imm n, .imm rows, r2, .imm start, .imm (.loc st0.length), .own (W.map tp), r6, r7], st0 ++ [.dtt (kvF F)]⟩
section
variable {fa : Fn} {n rows start : D} {st0 : List Ob}
theorem gb_in {F W : List (List Int)} {r p q : List Int} {r7 : Slot} (e : fa [tp r, tp p] (st0 ++ [.dtt (kvF F)]) = .ok (tp q) (st0 ++ [.dtt (kvF F)])) (h : q ∈ F) : gbody fa (gS n rows start st0 F W (.imm (tp r)) (.imm (tp p)) r7) = .ok .nx (gS n rows start st0 F W (.imm (tp r)) (.imm (tp p)) (.imm (tp q))) := by
  have k := keyD_tp q
  have v := val_kv (F := F) (p := q)
  rw [decide_eq_true h] at v
  generalize tp q = dq at *
  generalize tp p = dp at *
  generalize tp r = dr at *
  simp [mSeq, mIfS, mBl, mBin, mGet, mVar, bnd, lift, DL.ret, mC, slots, optB, isBl, mUn, mSet, mPut, S.put, mRet, endR, mPass, mPar, mCons, mNil, itD, mLook, cur, mAndT, mOrT, mNotT, mTru, tru, mFz, mUnF, mLst, mTup, few, mCall, outR, mOwn, mExpr, mApp, mPop, mIxN, mIxV, ixD, mIt, gNm, S.puts, mAnd, mOr, mNot, mIf, mBinF, mAsg, mNoP, mPart, mSl, mSlN, mRng, mEnum, mRetN, e, mHas, hasT, k, v]
theorem gb_out {F W : List (List Int)} {r p q : List Int} {r7 : Slot} (e : fa [tp r, tp p] (st0 ++ [.dtt (kvF F)]) = .ok (tp q) (st0 ++ [.dtt (kvF F)])) (h : q ∉ F) (hF : F.length < 900) (hW : W.length < 900) : gbody fa (gS n rows start st0 F W (.imm (tp r)) (.imm (tp p)) r7) = .ok .nx (gS n rows start st0 (F ++ [q]) (W ++ [q]) (.imm (tp r)) (.imm (tp p)) (.imm (tp q))) := by
  have k := keyD_tp q
  have v := val_kv (F := F) (p := q)
  rw [decide_eq_false h] at v
  have v2 : valD (kvF F) (q.map Sum.inl) = none := by
    cases hv : valD (kvF F) (q.map Sum.inl) with
    | none => rfl
    | some z => rw [hv] at v; cases v
  have pk := put_kv h
  have kl := kv_len F
  have l1 : (kvF F).length < 1000 := by omega
  have l2 : W.length + 1 ≤ 1000000 := by omega
  have em : (W ++ [q]).map tp = W.map tp ++ [tp q] := by simp
  show _ = R.ok Fl.nx ⟨[_, _, _, _, _, Slot.own ((W ++ [q]).map tp), _, _], _⟩
  rw [em]
  generalize tp q = dq at *
  generalize tp p = dp at *
  generalize tp r = dr at *
  simp [mSeq, mIfS, mBl, mBin, mGet, mVar, bnd, lift, DL.ret, mC, slots, optB, isBl, mUn, mSet, mPut, S.put, mRet, endR, mPass, mPar, mCons, mNil, itD, mLook, cur, mAndT, mOrT, mNotT, mTru, tru, mFz, mUnF, mLst, mTup, few, mCall, outR, mOwn, mExpr, mApp, mPop, mIxN, mIxV, ixD, mIt, gNm, S.puts, mAnd, mOr, mNot, mIf, mBinF, mAsg, mNoP, mPart, mSl, mSlN, mRng, mEnum, mRetN, e, mHas, hasT, k, v2, mPutT, pk, l1, l2]
theorem g_for {p : List Int} : ∀ (R F W : List (List Int)) (r2 r7 : Slot), (∀ r ∈ R, ∀ st, fa [tp r, tp p] st = .ok (tp (act r p)) st) → F.Nodup → F.length + R.length < 900 → W.length + R.length < 900 →
    ∃ (new : List (List Int)) (r2' r7' : Slot), fo (gNm 2) (gbody fa) (R.map tp) (gS n rows start st0 F W r2 (.imm (tp p)) r7) = .ok .nx (gS n rows start st0 (F ++ new) (W ++ new) r2' (.imm (tp p)) r7') ∧ (F ++ new).Nodup ∧ (∀ r ∈ R, act r p ∈ F ++ new) ∧ (∀ x ∈ new, ∃ r ∈ R, x = act r p)
  | [], F, W, r2, r7, _, nd, _, _ => ⟨[], r2, r7, by rw [List.append_nil, List.append_nil]; rfl, by rw [List.append_nil]; exact nd, fun r h => (by cases h), fun x h => (by cases h)⟩
  | r :: R, F, W, r2, r7, h, nd, hF, hW => by
    simp only [List.length_cons] at hF hW
    have e := h r List.mem_cons_self (st0 ++ [.dtt (kvF F)])
    by_cases hq : act r p ∈ F
    · obtain ⟨new, r2', r7', e2, n2, a2, b2⟩ := g_for R F W (.imm (tp r)) (.imm (tp (act r p))) (fun x hx => h x (List.mem_cons_of_mem _ hx)) nd (by omega) (by omega)
      refine ⟨new, r2', r7', ?_, n2, fun x hx => ?_, fun x hx => ?_⟩
      · have e3 := gb_in (n := n) (rows := rows) (start := start) (W := W) (r7 := r7) e hq
        rw [List.map_cons, fo]
        simp only [gNm, S.puts, S.put, List.set_cons_succ, List.set_cons_zero]
        rw [e3]
        exact e2
      · rcases List.mem_cons.mp hx with rfl | hx
        · exact List.mem_append_left _ hq
        · exact a2 x hx
      · obtain ⟨y, hy, e4⟩ := b2 x hx
        exact ⟨y, List.mem_cons_of_mem _ hy, e4⟩
    · obtain ⟨new, r2', r7', e2, n2, a2, b2⟩ := g_for R (F ++ [act r p]) (W ++ [act r p]) (.imm (tp r)) (.imm (tp (act r p))) (fun x hx => h x (List.mem_cons_of_mem _ hx)) (by
        rw [List.nodup_append]
        exact ⟨nd, by simp, fun a ha b hb e => by rw [List.mem_singleton.mp hb] at e; exact hq (e ▸ ha)⟩) (by simp; omega) (by simp; omega)
      refine ⟨act r p :: new, r2', r7', ?_, ?_, fun x hx => ?_, fun x hx => ?_⟩
      · have e3 := gb_out (n := n) (rows := rows) (start := start) (W := W) (r7 := r7) e hq (by omega) (by omega)
        rw [List.map_cons, fo]
        simp only [gNm, S.puts, S.put, List.set_cons_succ, List.set_cons_zero]
        rw [e3]
        rw [List.append_assoc, List.append_assoc] at e2
        exact e2
      · rw [List.append_assoc] at n2; exact n2
      · rw [List.append_assoc] at a2
        rcases List.mem_cons.mp hx with rfl | hx
        · exact List.mem_append_right _ List.mem_cons_self
        · exact a2 x hx
      · rcases List.mem_cons.mp hx with rfl | hx
        · exact ⟨r, List.mem_cons_self, rfl⟩
        · obtain ⟨y, hy, e4⟩ := b2 x hx
          exact ⟨y, List.mem_cons_of_mem _ hy, e4⟩
end
end LC

namespace LC
open PySem L2 DL
section
variable {fa : Fn} {n : Nat} {rows start : D} {st0 : List Ob}
abbrev gloop (fa : Fn) : MS := mSeq (mSet 6 (mPop 5)) (mFor (mIt (mVar 1)) (gNm 2) (gbody fa))
structure GInv (n : Nat) (R F W : List (List Int)) : Prop where
  nd : F.Nodup
  hd : F.head? = some (rgI n)
  cl : ∀ p ∈ F, Cl n R p
  ww : ∀ p ∈ W, p ∈ F
  wn : W.Nodup
  dn : ∀ p ∈ F, p ∈ W ∨ ∀ r ∈ R, act r p ∈ F
theorem tru_own {d : D} {sl : List Slot} {st : List Ob} {W : List (List Int)} (h : sl[5]? = some (.own (W.map tp))) : mTru (mLook 5) ⟨sl, st⟩ = .ok (!W.isEmpty) ⟨sl, st⟩ := by
  have e : (W.map tp).isEmpty = W.isEmpty := by cases W <;> rfl
  simp [mTru, mLook, cur, h, bnd, tru, optB]
theorem g_while {R : List (List Int)} (hn : n < 5) (hR : ∀ r ∈ R, Pm n r) (hl : R.length ≤ 100) (ha : ∀ r ∈ R, ∀ p, Pm n p → ∀ st, fa [tp r, tp p] st = .ok (tp (act r p)) st) : ∀ (m : Nat) (F W : List (List Int)) (r2 r6 r7 : Slot), 2 * (24 - F.length) + W.length = m → GInv n R F W →
    ∃ (F' : List (List Int)) (r2' r6' r7' : Slot), mWhile (mTru (mLook 5)) (gloop fa) (gS (.int n) (.tup (R.map tp)) start st0 F W r2 r6 r7) = .ok .nx (gS (.int n) (.tup (R.map tp)) start st0 F' [] r2' r6' r7') ∧ GInv n R F' [] := by
  intro m
  induction m using Nat.strongRecOn with
  | ind m ih =>
    intro F W r2 r6 r7 hm I
    have tw := tru_own (d := .non) (sl := [.imm (.int n), .imm (.tup (R.map tp)), r2, .imm start, .imm (.loc st0.length), .own (W.map tp), r6, r7]) (st := st0 ++ [.dtt (kvF F)]) (W := W) rfl
    rw [mWhile_eq, bnd_of tw]
    by_cases hW : W = []
    · subst hW
      exact ⟨F, r2, r6, r7, rfl, I⟩
    · have e1 : (!W.isEmpty) = true := by cases W with | nil => exact absurd rfl hW | cons a b => rfl
      rw [e1, if_pos rfl]
      obtain ⟨W0, p, rfl⟩ : ∃ W0 p, W = W0 ++ [p] := ⟨W.dropLast, W.getLast hW, (List.dropLast_concat_getLast hW).symm⟩
      have pF : p ∈ F := I.ww p (by simp)
      have pp : Pm n p := (I.cl p pF).pm hR
      have Fl := pm_len hn I.nd fun q hq => (I.cl q hq).pm hR
      have Wl := pm_len hn I.wn fun q hq => (I.cl q (I.ww q hq)).pm hR
      simp only [List.length_append, List.length_cons, List.length_nil] at Wl
      obtain ⟨new, r2', r7', e2, n2, a2, b2⟩ := g_for (fa := fa) (n := .int n) (rows := .tup (R.map tp)) (start := start) (st0 := st0) (p := p) R F W0 r2 r7 (fun r hr st => ha r hr p pp st) I.nd (by omega) (by omega)
      have nc : ∀ x ∈ new, Cl n R x := fun x hx => by
        obtain ⟨r, hr, rfl⟩ := b2 x hx
        exact .step hr (I.cl p pF)
      have wn := I.wn
      rw [List.nodup_append] at wn n2
      have I2 : GInv n R (F ++ new) (W0 ++ new) := by
        refine ⟨List.nodup_append.mpr n2, ?_, fun q hq => ?_, fun q hq => ?_, ?_, fun q hq => ?_⟩
        · have := I.hd
          cases F with
          | nil => cases this
          | cons a b => exact this
        · rcases List.mem_append.mp hq with z | z
          · exact I.cl q z
          · exact nc q z
        · rcases List.mem_append.mp hq with z | z
          · exact List.mem_append_left _ (I.ww q (List.mem_append_left _ z))
          · exact List.mem_append_right _ z
        · exact List.nodup_append.mpr ⟨wn.1, n2.2.1, fun a ha b hb => n2.2.2 a (I.ww a (List.mem_append_left _ ha)) b hb⟩
        · rcases List.mem_append.mp hq with z | z
          · rcases I.dn q z with y | y
            · rcases List.mem_append.mp y with x | x
              · exact .inl (List.mem_append_left _ x)
              · rw [List.mem_singleton.mp x]
                exact .inr a2
            · exact .inr fun r hr => List.mem_append_left _ (y r hr)
          · exact .inl (List.mem_append_right _ z)
      have Fl2 := pm_len hn I2.nd fun q hq => (I2.cl q hq).pm hR
      simp only [List.length_append] at Fl2
      have step : gloop fa (gS (.int n) (.tup (R.map tp)) start st0 F (W0 ++ [p]) r2 r6 r7) = .ok .nx (gS (.int n) (.tup (R.map tp)) start st0 (F ++ new) (W0 ++ new) r2' (.imm (tp p)) r7') := by
        have q1 : mSet 6 (mPop 5) (gS (.int n) (.tup (R.map tp)) start st0 F (W0 ++ [p]) r2 r6 r7) = .ok .nx (gS (.int n) (.tup (R.map tp)) start st0 F W0 r2 (.imm (tp p)) r7) := by
          generalize R.map tp = Rt
          simp [mSet, mPop, bnd, S.put]
        unfold gloop
        rw [seq_nx q1]
        unfold mFor
        rw [bnd_of (a := R.map tp) (s' := gS (.int n) (.tup (R.map tp)) start st0 F W0 r2 (.imm (tp p)) r7) (by simp [mIt, mVar, bnd, itD])]
        exact e2
      obtain ⟨F', a, b, c, e3, I3⟩ := ih (2 * (24 - (F ++ new).length) + (W0 ++ new).length) (by simp only [List.length_append, List.length_cons, List.length_nil] at hm ⊢; omega) (F ++ new) (W0 ++ new) r2' (.imm (tp p)) r7' rfl I2
      refine ⟨F', a, b, c, ?_, I3⟩
      simp only [step]
      exact e3
theorem GInv.fin {R F : List (List Int)} (I : GInv n R F []) (p : List Int) : p ∈ F ↔ Cl n R p := by
  refine Cl.of_closed ?_ (fun q hq => ?_) I.cl p
  · have := I.hd
    cases F with
    | nil => cases this
    | cons a b => cases this; exact List.mem_cons_self
  · rcases I.dn q hq with z | z
    · cases z
    · exact z
end
end LC

namespace LC
open PySem L2 DL
/-! ### a comprehension that picks -/
theorem lcs_pick {i : Nat} {t : MT} {P : D → Bool} {s : S} (he : s.sl[i]? = some .emp) (hx : noX s = true) : ∀ (ds acc : List D), (∀ d ∈ ds, t (s.put i (.imm d)) = .ok (P d) (s.put i (.imm d))) → few (acc.length + ds.length) → lcs (gNm i) t (mVar i) [i] acc ds s = .ok (acc ++ ds.filter P) s
  | [], acc, _, _ => by simp [lcs]
  | d :: ds, acc, h, hf => by
    have h1 := h d List.mem_cons_self
    have hi : i < s.sl.length := (List.getElem?_eq_some_iff.mp he).1
    have f1 : few (acc.length + 1) := by unfold few at hf ⊢; simp at hf; omega
    have v : mVar i (s.put i (.imm d)) = .ok d (s.put i (.imm d)) := by simp [mVar, S.put, hi]
    unfold lcs
    simp only [gNm, S.puts, h1]
    cases hp : P d with
    | true =>
      have ih := lcs_pick he hx ds (acc ++ [d]) (fun x hx' => h x (List.mem_cons_of_mem _ hx')) (by unfold few at hf ⊢; simp at hf ⊢; omega)
      simp only [if_true, v, f1, noX_put hx, and_self, wipe_put he]
      rw [ih]
      simp [hp]
    | false =>
      have ih := lcs_pick he hx ds acc (fun x hx' => h x (List.mem_cons_of_mem _ hx')) (by unfold few at hf ⊢; simp at hf ⊢; omega)
      simp only [Bool.false_eq_true, if_false, noX_put hx, if_true, wipe_put he]
      rw [ih]
      simp [hp]
theorem lc_pick {i : Nat} {it : MA} {t : MT} {P : D → Bool} {s0 s : S} {ds : List D} (hit : it s0 = .ok ds s) (he : s.sl[i]? = some .emp) (hx : noX s = true) (h : ∀ d ∈ ds, t (s.put i (.imm d)) = .ok (P d) (s.put i (.imm d))) (hf : few ds.length) : mLc it (gNm i) t (mVar i) [i] s0 = .ok (ds.filter P) s := by
  unfold mLc
  rw [bnd_of hit]
  simp only [hx, if_true, wipe_emp he]
  rw [lcs_pick he hx ds [] h (by simpa using hf)]
  simp
/-- back from a tuple of itsI -/
def itsI : D → List Int
  | .tup xs => xs.filterMap fun d => match d with | .int i => some i | _ => none
  | _ => []
theorem ints_tp (p : List Int) : itsI (tp p) = p := by
  unfold itsI tp
  induction p with
  | nil => rfl
  | cons a p ih => simpa using ih
theorem filter_tp (P : List (List Int)) (f : List Int → Bool) : (P.map tp).filter (fun d => f (itsI d)) = (P.filter f).map tp := by
  rw [List.filter_map]
  congr 1
  refine List.filter_congr fun p _ => ?_
  simp [ints_tp]
theorem listS_kv (F : List (List Int)) : (kvF F).map (fun p => D.tup (p.1.map kD)) = F.map tp := by
  unfold kvF
  rw [List.map_map]
  refine List.map_congr_left fun p _ => ?_
  simp only [Function.comp, List.map_map, tp]
  congr 1
section
variable {fo_ : Fn} {n : Nat} {st0 : List Ob}
theorem listed_gen {F P : List (List Int)} (hd : F.head? = some (rgI n)) (hn : n ≤ 100) (ho : ∀ st, fo_ [tp (rgI n)] st = .ok (.lst (P.map tp)) st) (hP : P.length ≤ 1000) :
    fnM 3 (mSeq (mIfS (mNotT (mTruN 0)) (mRet (mTup mNil)) mPass)
  (mSeq (mSet 1 (mUn fLen (mBin ixD (mFz (mListS (mLook 0))) (mC (.int 0)))))
  (mRet (mUn fTuple (mFz (mLc (mIt (mCall fo_ (mCons (mUn (fun d => (rgD d).map .tup) (mVar 1)) mNil))) (gNm 2) (mBl (mHas false (mVar 2) (mVar 0))) (mVar 2) [2])))))) [.loc st0.length] (st0 ++ [.dtt (kvF F)]) = .ok (.tup ((P.filter fun p => decide (p ∈ F)).map tp)) (st0 ++ [.dtt (kvF F)]) := by
  obtain ⟨F1, rfl⟩ : ∃ F1, F = rgI n :: F1 := by
    cases F with
    | nil => cases hd
    | cons a b => cases hd; exact ⟨b, rfl⟩
  have e0 : (kvF (rgI n :: F1)).isEmpty = false := rfl
  have eL := listS_kv (rgI n :: F1)
  have rn : rgD (.int n) = some ((rgI n).map .int) := by
    simp only [rgD]
    rw [if_pos ⟨by omega, by omega⟩, Int.toNat_natCast, rg_eq]
  have h1 : mIfS (mNotT (mTruN 0)) (mRet (mTup mNil)) mPass ⟨[.imm (.loc st0.length), .emp, .emp], st0 ++ [.dtt (kvF (rgI n :: F1))]⟩ = .ok .nx ⟨[.imm (.loc st0.length), .emp, .emp], st0 ++ [.dtt (kvF (rgI n :: F1))]⟩ := by
    simp [mIfS, mNotT, mTruN, mLook, cur, truS, bnd, optB, e0, DL.ret, mPass]
  have h2 : mSet 1 (mUn fLen (mBin ixD (mFz (mListS (mLook 0))) (mC (.int 0)))) ⟨[.imm (.loc st0.length), .emp, .emp], st0 ++ [.dtt (kvF (rgI n :: F1))]⟩ = .ok .nx ⟨[.imm (.loc st0.length), .imm (.int n), .emp], st0 ++ [.dtt (kvF (rgI n :: F1))]⟩ := by
    have q1 : listS ⟨[.imm (.loc st0.length), .emp, .emp], st0 ++ [.dtt (kvF (rgI n :: F1))]⟩ (.loc st0.length) = some ((rgI n :: F1).map tp) := by
      simp only [listS, get_end, eL]
    have q2 : ixD (.lst ((rgI n :: F1).map tp)) (.int 0) = some (tp (rgI n)) := by
      simp [ixD, atI, ixN]
    have q3 : fLen (tp (rgI n)) = some (.int n) := by simp [fLen, itD, rgI_len]
    generalize (rgI n :: F1).map tp = LL at q1 q2
    generalize tp (rgI n) = dd at q2 q3
    generalize st0 ++ [.dtt (kvF (rgI n :: F1))] = st at q1
    simp [mSet, mUn, mBin, mFz, mListS, mLook, cur, bnd, q1, DL.ret, mC, lift, q2, q3, S.put]
  have c := lc_pick (i := 2) (it := mIt (mCall fo_ (mCons (mUn (fun d => (rgD d).map .tup) (mVar 1)) mNil))) (t := mBl (mHas false (mVar 2) (mVar 0))) (P := fun d => decide (itsI d ∈ rgI n :: F1)) (s0 := ⟨[.imm (.loc st0.length), .imm (.int n), .emp], st0 ++ [.dtt (kvF (rgI n :: F1))]⟩) (s := ⟨[.imm (.loc st0.length), .imm (.int n), .emp], st0 ++ [.dtt (kvF (rgI n :: F1))]⟩) (ds := P.map tp) (by
    have ho := ho (st0 ++ [.dtt (kvF (rgI n :: F1))])
    simp [mIt, mCall, mCons, mUn, mVar, mNil, bnd, rn, lift, DL.ret, ho, outR, itD]) rfl rfl (fun d hd => by
    obtain ⟨p, _, rfl⟩ := List.mem_map.mp hd
    have k := keyD_tp p
    have v := val_kv (F := rgI n :: F1) (p := p)
    rw [ints_tp]
    generalize tp p = dp at k
    generalize hk : (p.map Sum.inl : List Key) = kk at k v
    simp only [mBl, mHas, mVar, bnd, S.put, List.set_cons_succ, List.set_cons_zero, List.getElem?_cons_succ, List.getElem?_cons_zero, hasT, k, get_end, v, optB, isBl, Bool.false_eq_true, if_false]) (by unfold few; simp; omega)
  rw [filter_tp (f := fun p => decide (p ∈ rgI n :: F1))] at c
  unfold fnM
  rw [show slots 3 [.loc st0.length] = [.imm (.loc st0.length), .emp, .emp] from rfl, seq_nx h1, seq_nx h2]
  generalize mLc (mIt (mCall fo_ (mCons (mUn (fun d => (rgD d).map .tup) (mVar 1)) mNil))) (gNm 2) (mBl (mHas false (mVar 2) (mVar 0))) (mVar 2) [2] = M at c
  generalize (P.filter fun p => decide (p ∈ rgI n :: F1)).map tp = out at c ⊢
  simp [mRet, mUn, fTuple, itD, mFz, bnd, DL.ret, lift, c, endR]
end
end LC

namespace LC
open PySem L2 DL
theorem deq_tp (a b : List Int) : deq 50 (tp a) (tp b) = some (decide (a = b)) := deq_ints 49 a b
theorem pd_tp (n : Nat) (a : List Int) : pd (n + 1) (tp a) = some (.tuple (a.map .int)) := by
  simp [pd, pd_ints]
theorem pds_tp (n : Nat) : ∀ F : List (List Int), (pds (pd (n + 1)) (F.map tp)).isSome = true
  | [] => rfl
  | a :: F => by
    have ih := pds_tp n F
    obtain ⟨z, hz⟩ := Option.isSome_iff_exists.mp ih
    simp only [List.map_cons, pds, pd_tp, hz, Option.isSome_some]
theorem inQ_tp (q : List Int) : ∀ F : List (List Int), inQ (tp q) (F.map tp) = decide (q ∈ F)
  | [] => rfl
  | a :: F => by
    have ih := inQ_tp q F
    unfold inQ at ih ⊢
    rw [List.map_cons, List.any_cons, ih, deq_tp]
    by_cases e : a = q
    · subst e; simp
    · simp [e, Ne.symm e]
theorem fInQ_tp (neg : Bool) (q : List Int) (F : List (List Int)) : fInQ neg (tp q) (.lst (F.map tp)) = some (.bl (if neg then !decide (q ∈ F) else decide (q ∈ F))) := by
  have h1 : (pd 50 (tp q)).isSome = true := by rw [pd_tp]; rfl
  have h2 := pds_tp 49 F
  unfold fInQ
  simp only [seqD]
  rw [if_pos ⟨h1, h2⟩, inQ_tp]
abbrev cM : MA := mLc (mIt (mIxN 2 (mVar 3))) (gNm 6) mYes (mIxN 4 (mVar 6)) [6]
abbrev cbody : MS := mSeq (mSet 5 (mUn fTuple (mFz cM))) (mIfS (mBl (mInV true (mVar 5) 2)) (mExpr (mApp 2 (mVar 5))) mPass)
abbrev cS (n rows : D) (st : List Ob) (F : List (List Int)) (k : Nat) (r4 r5 : Slot) : S := ⟨[.imm n, .imm rows, .own (F.map tp), .imm (.int k), r4, r5, .emp, .emp], st⟩
section
variable {n : Nat} {nn rows : D} {st : List Ob}
theorem cM_eq {F : List (List Int)} {k : Nat} {r p : List Int} {r5 : Slot} (hn : n < 5) (hk : F[k]? = some p) (hr : Pm n r) (hp : Pm n p) (h5 : r5 = .emp ∨ ∃ d, r5 = .imm d) : cM (cS nn rows st F k (.imm (tp r)) r5) = .ok ((act r p).map .int) (cS nn rows st F k (.imm (tp r)) r5) := by
  have hkl : k < F.length := (List.getElem?_eq_some_iff.mp hk).1
  have hat : atI (F.map tp) k = some (tp p) := by
    unfold atI ixN
    rw [if_pos (by omega), if_pos (by simpa using hkl)]
    simp [hk]
  have c := lc_map (i := 6) (it := mIt (mIxN 2 (mVar 3))) (m := mIxN 4 (mVar 6)) (f := fun d => match d with | .int q => .int (gI r q) | d => d) (s0 := cS nn rows st F k (.imm (tp r)) r5) (s := cS nn rows st F k (.imm (tp r)) r5) (ds := p.map .int) (by
      simp [mIt, mIxN, mIxV, mVar, cur, bnd, ixD, hat, lift, DL.ret, itD]) rfl (by rcases h5 with rfl | ⟨d, rfl⟩ <;> rfl) (fun d hd => by
      obtain ⟨q, hq, rfl⟩ := List.mem_map.mp hd
      obtain ⟨h0, h1⟩ := hp.mem hq
      have lr := hr.len
      have ha := atI_int (p := r) (q := q) h0 (by omega)
      simp [mIxN, mIxV, mVar, cur, bnd, DL.ret, S.put, lift, ixD, ha]) (by unfold few; have := hp.len; simp; omega)
  have e : (p.map D.int).map (fun d => match d with | .int q => D.int (gI r q) | d => d) = (act r p).map .int := by simp [act]
  rw [e] at c
  exact c
theorem cb_eq {F : List (List Int)} {k : Nat} {r p : List Int} {r5 : Slot} (hn : n < 5) (hk : F[k]? = some p) (hr : Pm n r) (hp : Pm n p) (hF : F.length < 900) (h5 : r5 = .emp ∨ ∃ d, r5 = .imm d) : cbody (cS nn rows st F k (.imm (tp r)) r5) = .ok .nx (cS nn rows st (if act r p ∈ F then F else F ++ [act r p]) k (.imm (tp r)) (.imm (tp (act r p)))) := by
  have c := cM_eq (nn := nn) (rows := rows) (st := st) (F := F) (k := k) hn hk hr hp h5
  have q := fInQ_tp true (act r p) F
  have em : (F ++ [act r p]).map tp = F.map tp ++ [tp (act r p)] := by simp
  have fw : F.length + 1 ≤ 1000000 := by omega
  unfold cbody
  generalize cM = M at c ⊢
  have h1 : mSet 5 (mUn fTuple (mFz M)) (cS nn rows st F k (.imm (tp r)) r5) = .ok .nx (cS nn rows st F k (.imm (tp r)) (.imm (tp (act r p)))) := by
    simp [mSet, mUn, mFz, bnd, c, DL.ret, fTuple, itD, lift, S.put]
  rw [seq_nx h1]
  by_cases hm : act r p ∈ F
  · rw [if_pos hm]
    rw [decide_eq_true hm] at q
    generalize tp (act r p) = dq at *
    generalize hFF : F.map tp = FF at *
    simp [mIfS, mBl, mInV, mVar, bnd, cur, q, lift, DL.ret, optB, isBl, mPass, hFF]
  · rw [if_neg hm]
    rw [decide_eq_false hm] at q
    show _ = R.ok Fl.nx ⟨[_, _, Slot.own ((F ++ [act r p]).map tp), _, _, _, _, _], _⟩
    rw [em]
    have fl : (F.map tp).length + 1 ≤ 1000000 := by simpa using fw
    generalize tp (act r p) = dq at *
    generalize hFF : F.map tp = FF at *
    simp [mIfS, mBl, mInV, mVar, bnd, cur, q, lift, DL.ret, optB, isBl, mPass, hFF, mExpr, mApp, S.put, few, fl]
theorem c_for {k : Nat} {p : List Int} (hn : n < 5) (hp : Pm n p) : ∀ (R F : List (List Int)) (r4 r5 : Slot), (∀ r ∈ R, Pm n r) → F[k]? = some p → F.Nodup → F.length + R.length < 900 → (r4 = .emp ∨ ∃ d, r4 = .imm d) → (r5 = .emp ∨ ∃ d, r5 = .imm d) →
    ∃ (new : List (List Int)) (r4' r5' : Slot), fo (gNm 4) cbody (R.map tp) (cS nn rows st F k r4 r5) = .ok .nx (cS nn rows st (F ++ new) k r4' r5') ∧ (F ++ new).Nodup ∧ (∀ r ∈ R, act r p ∈ F ++ new) ∧ (∀ x ∈ new, ∃ r ∈ R, x = act r p) ∧ (r4' = .emp ∨ ∃ d, r4' = .imm d) ∧ (r5' = .emp ∨ ∃ d, r5' = .imm d)
  | [], F, r4, r5, _, _, nd, _, h4, h5 => ⟨[], r4, r5, by rw [List.append_nil]; rfl, by rw [List.append_nil]; exact nd, fun r h => (by cases h), fun x h => (by cases h), h4, h5⟩
  | r :: R, F, r4, r5, h, hk, nd, hF, h4, h5 => by
    simp only [List.length_cons] at hF
    have e3 := cb_eq (nn := nn) (rows := rows) (st := st) (F := F) (k := k) (r5 := r5) hn hk (h r List.mem_cons_self) hp (by omega) h5
    by_cases hq : act r p ∈ F
    · rw [if_pos hq] at e3
      obtain ⟨new, r4', r5', e2, n2, a2, b2, g2⟩ := c_for hn hp R F (.imm (tp r)) (.imm (tp (act r p))) (fun x hx => h x (List.mem_cons_of_mem _ hx)) hk nd (by omega) (.inr ⟨_, rfl⟩) (.inr ⟨_, rfl⟩)
      refine ⟨new, r4', r5', ?_, n2, fun x hx => ?_, fun x hx => ?_, g2⟩
      · rw [List.map_cons, fo]
        simp only [gNm, S.puts, S.put, List.set_cons_succ, List.set_cons_zero]
        rw [e3]
        exact e2
      · rcases List.mem_cons.mp hx with rfl | hx
        · exact List.mem_append_left _ hq
        · exact a2 x hx
      · obtain ⟨y, hy, e4⟩ := b2 x hx
        exact ⟨y, List.mem_cons_of_mem _ hy, e4⟩
    · rw [if_neg hq] at e3
      have hkl : k < F.length := (List.getElem?_eq_some_iff.mp hk).1
      obtain ⟨new, r4', r5', e2, n2, a2, b2, g2⟩ := c_for hn hp R (F ++ [act r p]) (.imm (tp r)) (.imm (tp (act r p))) (fun x hx => h x (List.mem_cons_of_mem _ hx)) (by rw [List.getElem?_append_left hkl]; exact hk) (by
        rw [List.nodup_append]
        exact ⟨nd, by simp, fun a ha b hb e => by rw [List.mem_singleton.mp hb] at e; exact hq (e ▸ ha)⟩) (by simp; omega) (.inr ⟨_, rfl⟩) (.inr ⟨_, rfl⟩)
      refine ⟨act r p :: new, r4', r5', ?_, ?_, fun x hx => ?_, fun x hx => ?_, g2⟩
      · rw [List.map_cons, fo]
        simp only [gNm, S.puts, S.put, List.set_cons_succ, List.set_cons_zero]
        rw [e3]
        rw [List.append_assoc] at e2
        exact e2
      · rw [List.append_assoc] at n2; exact n2
      · rw [List.append_assoc] at a2
        rcases List.mem_cons.mp hx with rfl | hx
        · exact List.mem_append_right _ List.mem_cons_self
        · exact a2 x hx
      · rcases List.mem_cons.mp hx with rfl | hx
        · exact ⟨r, List.mem_cons_self, rfl⟩
        · obtain ⟨y, hy, e4⟩ := b2 x hx
          exact ⟨y, List.mem_cons_of_mem _ hy, e4⟩
structure CInv (n : Nat) (R F : List (List Int)) (k : Nat) : Prop where
  nd : F.Nodup
  hd : F.head? = some (rgI n)
  cl : ∀ p ∈ F, Cl n R p
  le : k ≤ F.length
  dn : ∀ (j : Nat) p, j < k → F[j]? = some p → ∀ r ∈ R, act r p ∈ F
abbrev cloop : MS := mSeq (mFor (mIt (mVar 1)) (gNm 4) cbody) (mSet 3 (mBin fAdd (mVar 3) (mC (.int 1))))
abbrev ctest : MT := mBl (mBin iLt (mVar 3) (mUn fLen (mLook 2)))
theorem ctest_eq {F : List (List Int)} {k : Nat} {r4 r5 : Slot} : ctest (cS nn rows st F k r4 r5) = .ok (decide (k < F.length)) (cS nn rows st F k r4 r5) := by
  have e : fLen (.lst (F.map tp)) = some (.int F.length) := by simp [fLen, itD]
  generalize hFF : F.map tp = FF at *
  simp [ctest, mBl, mBin, mVar, mUn, mLook, cur, bnd, e, lift, iLt, intF, DL.ret, optB, isBl, hFF]
theorem c_while {R : List (List Int)} (hn : n < 5) (hR : ∀ r ∈ R, Pm n r) (hl : R.length ≤ 100) : ∀ (m : Nat) (F : List (List Int)) (k : Nat) (r4 r5 : Slot), 24 - k = m → CInv n R F k → (r4 = .emp ∨ ∃ d, r4 = .imm d) → (r5 = .emp ∨ ∃ d, r5 = .imm d) →
    ∃ (F' : List (List Int)) (k' : Nat) (r4' r5' : Slot), mWhile ctest cloop (cS nn (.lst (R.map tp)) st F k r4 r5) = .ok .nx (cS nn (.lst (R.map tp)) st F' k' r4' r5') ∧ CInv n R F' k' ∧ k' = F'.length ∧ (r4' = .emp ∨ ∃ d, r4' = .imm d) ∧ (r5' = .emp ∨ ∃ d, r5' = .imm d) := by
  intro m
  induction m using Nat.strongRecOn with
  | ind m ih =>
    intro F k r4 r5 hm I h4 h5
    rw [mWhile_eq, bnd_of ctest_eq]
    have Fl := pm_len hn I.nd fun q hq => (I.cl q hq).pm hR
    by_cases hk : k < F.length
    · rw [decide_eq_true hk, if_pos rfl]
      have ek : F[k]? = some F[k] := List.getElem?_eq_getElem hk
      have hp : Pm n F[k] := (I.cl _ (List.getElem_mem hk)).pm hR
      obtain ⟨new, r4', r5', e2, n2, a2, b2, g1, g2⟩ := c_for (nn := nn) (rows := .lst (R.map tp)) (st := st) hn hp R F r4 r5 hR ek I.nd (by omega) h4 h5
      have nc : ∀ x ∈ new, Cl n R x := fun x hx => by
        obtain ⟨r, hr, rfl⟩ := b2 x hx
        exact .step hr (I.cl _ (List.getElem_mem hk))
      have I2 : CInv n R (F ++ new) (k + 1) := by
        refine ⟨n2, ?_, fun q hq => ?_, by rw [List.length_append]; omega, fun j q hj hq => ?_⟩
        · have := I.hd
          cases F with
          | nil => cases this
          | cons a b => exact this
        · rcases List.mem_append.mp hq with z | z
          · exact I.cl q z
          · exact nc q z
        · rw [List.getElem?_append_left (by omega)] at hq
          by_cases hjk : j = k
          · subst hjk
            rw [ek] at hq
            cases hq
            exact a2
          · exact fun r hr => List.mem_append_left _ (I.dn j q (by omega) hq r hr)
      have step : cloop (cS nn (.lst (R.map tp)) st F k r4 r5) = .ok .nx (cS nn (.lst (R.map tp)) st (F ++ new) (k + 1) r4' r5') := by
        unfold cloop
        have q1 : mFor (mIt (mVar 1)) (gNm 4) cbody (cS nn (.lst (R.map tp)) st F k r4 r5) = .ok .nx (cS nn (.lst (R.map tp)) st (F ++ new) k r4' r5') := by
          unfold mFor
          rw [bnd_of (a := R.map tp) (s' := cS nn (.lst (R.map tp)) st F k r4 r5) (by simp [mIt, mVar, bnd, itD])]
          exact e2
        rw [seq_nx q1]
        simp [mSet, mBin, mVar, mC, bnd, DL.ret, fAdd, lift, S.put]
      obtain ⟨F', k', a, b, e3, I3, l3, z3, y3⟩ := ih (24 - (k + 1)) (by omega) (F ++ new) (k + 1) r4' r5' rfl I2 g1 g2
      refine ⟨F', k', a, b, ?_, I3, l3, z3, y3⟩
      simp only [step]
      exact e3
    · rw [decide_eq_false hk]
      exact ⟨F, k, r4, r5, rfl, I, by have := I.le; omega, h4, h5⟩
theorem CInv.fin {R F : List (List Int)} (I : CInv n R F F.length) (p : List Int) : p ∈ F ↔ Cl n R p := by
  refine Cl.of_closed ?_ (fun q hq => ?_) I.cl p
  · have := I.hd
    cases F with
    | nil => cases this
    | cons a b => cases this; exact List.mem_cons_self
  · obtain ⟨j, hj, e⟩ := List.getElem_of_mem hq
    exact I.dn j q hj (by rw [List.getElem?_eq_getElem hj, e])
theorem closed_gen {ft : Fn} {R : List (List Int)} (hn : n < 5) (hR : ∀ r ∈ R, Pm n r) (hl : R.length ≤ 100) (ht : ft [.int n] st = .ok (.lst ((permsL n).map tp)) st) :
    fnM 8 (mSeq (mOwn 2 (mLst (mCons (mUn (fun d => (rgD d).map .tup) (mVar 0)) mNil)))
  (mSeq (mSet 3 (mC (.int 0)))
  (mSeq (mWhile (mBl (mBin iLt (mVar 3) (mUn fLen (mLook 2)))) (mSeq (mFor (mIt (mVar 1)) (gNm 4) (mSeq (mSet 5 (mUn fTuple (mFz (mLc (mIt (mIxN 2 (mVar 3))) (gNm 6) mYes (mIxN 4 (mVar 6)) [6]))))
  (mIfS (mBl (mInV true (mVar 5) 2)) (mExpr (mApp 2 (mVar 5))) mPass)))
  (mSet 3 (mBin fAdd (mVar 3) (mC (.int 1))))))
  (mRet (mUn fTuple (mFz (mLc (mIt (mCall ft (mCons (mVar 0) mNil))) (gNm 7) (mBl (mInV false (mVar 7) 2)) (mVar 7) [7]))))))) [.int n, .lst (R.map tp)] st = .ok (.tup ((grp n R).map tp)) st := by
  have rn : rgD (.int n) = some ((rgI n).map .int) := by
    simp only [rgD]
    rw [if_pos ⟨by omega, by omega⟩, Int.toNat_natCast, rg_eq]
  have I0 : CInv n R [rgI n] 0 := ⟨by simp, rfl, fun p hp => by rw [List.mem_singleton.mp hp]; exact .one, Nat.zero_le _, fun j p hj => by omega⟩
  obtain ⟨F, k, r4, r5, e, I, rfl, h4, h5⟩ := c_while (nn := .int n) (st := st) hn hR hl _ [rgI n] 0 .emp .emp rfl I0 (.inl rfl) (.inl rfl)
  have h1 : mOwn 2 (mLst (mCons (mUn (fun d => (rgD d).map .tup) (mVar 0)) mNil)) ⟨slots 8 [.int n, .lst (R.map tp)], st⟩ = .ok .nx ⟨[.imm (.int n), .imm (.lst (R.map tp)), .own ([rgI n].map tp), .emp, .emp, .emp, .emp, .emp], st⟩ := by
    simp [mOwn, mLst, mCons, mUn, mVar, mNil, bnd, slots, rn, lift, DL.ret, few, S.put]
  have h2 : mSet 3 (mC (.int 0)) ⟨[.imm (.int n), .imm (.lst (R.map tp)), .own ([rgI n].map tp), .emp, .emp, .emp, .emp, .emp], st⟩ = .ok .nx (cS (.int n) (.lst (R.map tp)) st [rgI n] 0 .emp .emp) := by
    simp [mSet, mC, bnd, DL.ret, S.put]
  have fin := I.fin
  have c := lc_pick (i := 7) (it := mIt (mCall ft (mCons (mVar 0) mNil))) (t := mBl (mInV false (mVar 7) 2)) (P := fun d => decide (itsI d ∈ F)) (s0 := cS (.int n) (.lst (R.map tp)) st F F.length r4 r5) (s := cS (.int n) (.lst (R.map tp)) st F F.length r4 r5) (ds := (permsL n).map tp) (by
    simp [mIt, mCall, mCons, mVar, mNil, bnd, DL.ret, ht, outR, itD]) rfl (by rcases h4 with rfl | ⟨d, rfl⟩ <;> rcases h5 with rfl | ⟨d', rfl⟩ <;> rfl) (fun d hd => by
    obtain ⟨p, _, rfl⟩ := List.mem_map.mp hd
    have q := fInQ_tp false p F
    rw [ints_tp]
    simp only [Bool.false_eq_true, if_false] at q
    simp only [mBl, mInV, mVar, bnd, S.put, List.set_cons_succ, List.set_cons_zero, List.getElem?_cons_succ, List.getElem?_cons_zero, cur, q, lift, DL.ret, optB, isBl]) (by unfold few; have := permsL_len hn; simp; omega)
  rw [filter_tp (f := fun p => decide (p ∈ F)), grp_filter fin] at c
  unfold fnM
  rw [seq_nx h1, seq_nx h2, seq_nx e]
  generalize mLc (mIt (mCall ft (mCons (mVar 0) mNil))) (gNm 7) (mBl (mInV false (mVar 7) 2)) (mVar 7) [7] = M at c ⊢
  generalize (grp n R).map tp = out at c ⊢
  simp [mRet, mUn, fTuple, itD, mFz, bnd, DL.ret, lift, c, endR]
end
end LC

namespace LC
open PySem L2 DL
section
variable {fs fa fl : Fn} {n : Nat} {st : List Ob}
abbrev zbody (fs : Fn) : MS := mExpr (mCall fs (mCons (mVar 2) (mCons (mVar 0) mNil)))
theorem z_for {rows : D} : ∀ (ds : List D) (r2 : Slot), (∀ d ∈ ds, fs [d, .int n] st = .ok d st) → ∃ r2', fo (gNm 2) (zbody fs) ds ⟨[.imm (.int n), .imm rows, r2, .emp, .emp, .emp, .emp, .emp], st⟩ = .ok .nx ⟨[.imm (.int n), .imm rows, r2', .emp, .emp, .emp, .emp, .emp], st⟩
  | [], r2, _ => ⟨r2, rfl⟩
  | d :: ds, r2, h => by
    obtain ⟨r2', e⟩ := z_for (rows := rows) ds (.imm d) fun x hx => h x (List.mem_cons_of_mem _ hx)
    have h1 := h d List.mem_cons_self
    refine ⟨r2', ?_⟩
    have e1 : zbody fs ⟨[.imm (.int n), .imm rows, .imm d, .emp, .emp, .emp, .emp, .emp], st⟩ = .ok .nx ⟨[.imm (.int n), .imm rows, .imm d, .emp, .emp, .emp, .emp, .emp], st⟩ := by
      simp [zbody, mExpr, mCall, mCons, mVar, mNil, bnd, DL.ret, h1, outR]
    unfold fo
    simp only [gNm, S.puts, S.put, List.set_cons_succ, List.set_cons_zero]
    rw [e1]
    exact e
theorem z_bad {rows b : D} {post : List D} {x : Exc} : ∀ (ds : List D) (r2 : Slot), (∀ d ∈ ds, fs [d, .int n] st = .ok d st) → fs [b, .int n] st = .exc x st → ∃ sl, fo (gNm 2) (zbody fs) (ds ++ b :: post) ⟨[.imm (.int n), .imm rows, r2, .emp, .emp, .emp, .emp, .emp], st⟩ = .exc x ⟨sl, st⟩
  | [], r2, _, hb => by
    refine ⟨[.imm (.int n), .imm rows, .imm b, .emp, .emp, .emp, .emp, .emp], ?_⟩
    have e1 : zbody fs ⟨[.imm (.int n), .imm rows, .imm b, .emp, .emp, .emp, .emp, .emp], st⟩ = .exc x ⟨[.imm (.int n), .imm rows, .imm b, .emp, .emp, .emp, .emp, .emp], st⟩ := by
      simp [zbody, mExpr, mCall, mCons, mVar, mNil, bnd, DL.ret, hb, outR]
    rw [List.nil_append]
    unfold fo
    simp only [gNm, S.puts, S.put, List.set_cons_succ, List.set_cons_zero]
    rw [e1]
  | d :: ds, r2, h, hb => by
    obtain ⟨sl, e⟩ := z_bad (rows := rows) (post := post) ds (.imm d) (fun x hx => h x (List.mem_cons_of_mem _ hx)) hb
    have h1 := h d List.mem_cons_self
    refine ⟨sl, ?_⟩
    have e1 : zbody fs ⟨[.imm (.int n), .imm rows, .imm d, .emp, .emp, .emp, .emp, .emp], st⟩ = .ok .nx ⟨[.imm (.int n), .imm rows, .imm d, .emp, .emp, .emp, .emp, .emp], st⟩ := by
      simp [zbody, mExpr, mCall, mCons, mVar, mNil, bnd, DL.ret, h1, outR]
    rw [List.cons_append]
    unfold fo
    simp only [gNm, S.puts, S.put, List.set_cons_succ, List.set_cons_zero]
    rw [e1]
    exact e
noncomputable abbrev genM (fs fa fl : Fn) : MS := mSeq (mFor (mIt (mVar 1)) (gNm 2) (zbody fs))
  (mSeq (mSet 3 (mUn (fun d => (rgD d).map .tup) (mVar 0)))
  (mSeq (mSet 4 (mDict1T (mVar 3) (mC (.bl true))))
  (mSeq (mOwn 5 (mLst (mCons (mVar 3) mNil)))
  (mSeq (mWhile (mTru (mLook 5)) (gloop fa))
  (mRet (mCall fl (mCons (mVar 4) mNil)))))))
theorem gen_bad {b : D} {pre post : List D} {x : Exc} (h : ∀ d ∈ pre, fs [d, .int n] st = .ok d st) (hb : fs [b, .int n] st = .exc x st) : fnM 8 (genM fs fa fl) [.int n, .tup (pre ++ b :: post)] st = .exc x st := by
  obtain ⟨sl, e⟩ := z_bad (rows := .tup (pre ++ b :: post)) (post := post) pre .emp h hb
  unfold fnM genM
  rw [seq_exc (x := x) (s' := ⟨sl, st⟩) (by
    unfold mFor
    rw [bnd_of (a := pre ++ b :: post) (s' := ⟨slots 8 [.int n, .tup (pre ++ b :: post)], st⟩) (by simp [mIt, mVar, bnd, slots, itD])]
    exact e)]
  rfl
theorem rgD_n {n : Nat} (hn : n ≤ 1000) : rgD (.int n) = some ((rgI n).map .int) := by
  simp only [rgD]
  rw [if_pos ⟨by omega, by omega⟩, Int.toNat_natCast, rg_eq]
theorem gen_ok {R : List (List Int)} (hn : n < 5) (hR : ∀ r ∈ R, Pm n r) (hl : R.length ≤ 100) (hs : ∀ r ∈ R, fs [tp r, .int n] st = .ok (tp r) st) (ha : ∀ r ∈ R, ∀ p, Pm n p → ∀ st, fa [tp r, tp p] st = .ok (tp (act r p)) st)
    (hL : ∀ F : List (List Int), F.head? = some (rgI n) → fl [.loc st.length] (st ++ [.dtt (kvF F)]) = .ok (.tup (((permsL n).filter fun p => decide (p ∈ F)).map tp)) (st ++ [.dtt (kvF F)])) :
    ∃ c, fnM 8 (genM fs fa fl) [.int n, .tup (R.map tp)] st = .ok (.tup ((grp n R).map tp)) (st ++ [c]) := by
  have rn := rgD_n (n := n) (by omega)
  obtain ⟨r2, e0⟩ := z_for (fs := fs) (n := n) (st := st) (rows := .tup (R.map tp)) (R.map tp) .emp fun d hd => by
    obtain ⟨r, hr, rfl⟩ := List.mem_map.mp hd
    exact hs r hr
  have I0 : GInv n R [rgI n] [rgI n] := ⟨by simp, rfl, fun p hp => by rw [List.mem_singleton.mp hp]; exact .one, fun p hp => hp, by simp, fun p hp => .inl hp⟩
  obtain ⟨F, a, b, c, e, I⟩ := g_while (fa := fa) (start := tp (rgI n)) (st0 := st) hn hR hl ha _ [rgI n] [rgI n] r2 .emp .emp rfl I0
  refine ⟨.dtt (kvF F), ?_⟩
  have fin := I.fin
  have hL := hL F I.hd
  rw [grp_filter fin] at hL
  have h1 : mFor (mIt (mVar 1)) (gNm 2) (zbody fs) ⟨slots 8 [.int n, .tup (R.map tp)], st⟩ = .ok .nx ⟨[.imm (.int n), .imm (.tup (R.map tp)), r2, .emp, .emp, .emp, .emp, .emp], st⟩ := by
    unfold mFor
    rw [bnd_of (a := R.map tp) (s' := ⟨slots 8 [.int n, .tup (R.map tp)], st⟩) (by simp [mIt, mVar, bnd, slots, itD])]
    exact e0
  have h2 : mSet 3 (mUn (fun d => (rgD d).map .tup) (mVar 0)) ⟨[.imm (.int n), .imm (.tup (R.map tp)), r2, .emp, .emp, .emp, .emp, .emp], st⟩ = .ok .nx ⟨[.imm (.int n), .imm (.tup (R.map tp)), r2, .imm (tp (rgI n)), .emp, .emp, .emp, .emp], st⟩ := by
    simp [mSet, mUn, mVar, bnd, rn, lift, DL.ret, S.put]
  have h3 : mSet 4 (mDict1T (mVar 3) (mC (.bl true))) ⟨[.imm (.int n), .imm (.tup (R.map tp)), r2, .imm (tp (rgI n)), .emp, .emp, .emp, .emp], st⟩ = .ok .nx ⟨[.imm (.int n), .imm (.tup (R.map tp)), r2, .imm (tp (rgI n)), .imm (.loc st.length), .emp, .emp, .emp], st ++ [.dtt (kvF [rgI n])]⟩ := by
    have k := keyD_tp (rgI n)
    show _ = DL.R.ok Fl.nx ⟨_, st ++ [.dtt [((rgI n).map Sum.inl, .bl true)]]⟩
    generalize tp (rgI n) = dd at k
    generalize (rgI n).map Sum.inl = kk at k
    simp [mSet, mDict1T, mVar, mC, bnd, DL.ret, k, S.put]
  have h4 : mOwn 5 (mLst (mCons (mVar 3) mNil)) ⟨[.imm (.int n), .imm (.tup (R.map tp)), r2, .imm (tp (rgI n)), .imm (.loc st.length), .emp, .emp, .emp], st ++ [.dtt (kvF [rgI n])]⟩ = .ok .nx (gS (.int n) (.tup (R.map tp)) (tp (rgI n)) st [rgI n] [rgI n] r2 .emp .emp) := by
    simp [mOwn, mLst, mCons, mVar, mNil, bnd, DL.ret, few, S.put]
  unfold fnM genM
  rw [seq_nx h1, seq_nx h2, seq_nx h3, seq_nx h4, seq_nx e]
  simp [mRet, mCall, mCons, mVar, mNil, bnd, DL.ret, hL, outR, endR]
end
/-! ### shuffling any things -/
theorem ne_nil {ds : List D} (h : (pds (pd 49) ds).isSome = true) : fNe (.lst ds) (.lst []) = some (.bl (!ds.isEmpty)) := by
  have h1 : (pd 50 (.lst ds)).isSome = true := by
    obtain ⟨z, hz⟩ := Option.isSome_iff_exists.mp h
    simp [pd, hz]
  have h2 : (pd 50 (.lst [])).isSome = true := rfl
  have h3 : deq 50 (.lst ds) (.lst []) = some ds.isEmpty := by cases ds <;> rfl
  unfold fNe
  rw [if_pos ⟨h1, h2⟩, h3]
  rfl
theorem pds_some {f : D → Option PyData} : ∀ {ds : List D}, (pds f ds).isSome = true ↔ ∀ d ∈ ds, (f d).isSome = true
  | [] => by simp [pds]
  | d :: ds => by
    have ih := pds_some (f := f) (ds := ds)
    simp only [List.mem_cons, forall_eq_or_imp, ← ih]
    rw [show pds f (d :: ds) = (match f d, pds f ds with | some p, some ps => some (p :: ps) | _, _ => none) from rfl]
    cases f d <;> cases pds f ds <;> simp
theorem perm_eraseD {ns : List D} {k : Nat} (h : k < ns.length) : (ns.eraseIdx k ++ [ns[k]]).Perm ns := by
  have e : ns = ns.take k ++ ns[k] :: ns.drop (k + 1) := by simp
  rw [List.eraseIdx_eq_take_drop_succ]
  conv => rhs; rw [e]
  rw [List.append_assoc]
  exact List.Perm.append_left _ (List.perm_append_singleton _ _)
theorem shuf_loopD (I0 : Slot) : ∀ (n : Nat) (B : Nat) (st : List Ob) (rest found : List D), rest.length = n → (∀ d ∈ rest, (pd 49 d).isSome = true) → IsPen B st → B + n < 2 ^ 30 → found.length + n < 1000 →
    ∃ (out : List D) (st' : List Ob), mWhile (mBl (mNeV 2 (mFz (mLst mNil)))) (mExpr (mApp 3 (mPopAt 2 (mCall f__law_draw (mCons (mVar 0) (mCons (mUn fLen (mLook 2)) mNil)))))) ⟨[.imm (.loc 0), I0, .own rest, .own found], st⟩ = .ok .nx ⟨[.imm (.loc 0), I0, .own [], .own out], st'⟩ ∧ out.Perm (found ++ rest) ∧ IsPen (B + n) st' := by
  intro n
  induction n with
  | zero =>
    intro B st rest found hn _ hp hB hl
    have e : rest = [] := List.length_eq_zero_iff.mp hn
    subst e
    refine ⟨found, st, ?_, by simp, hp⟩
    have e2 : fNe (.lst []) (.lst []) = some (.bl false) := ne_nil rfl
    rw [mWhile_eq]
    simp [mBl, mNeV, mFz, mLst, mNil, bnd, DL.ret, cur, few, lift, e2, optB, isBl]
  | succ n ih =>
    intro B st rest found hn hq hp hB hl
    obtain ⟨k, st1, e, k0, k1, hp1⟩ := draw_spec (m := rest.length) hp (by omega) (by omega) (by omega)
    have hk : k.toNat < rest.length := by omega
    obtain ⟨out, st2, e2, pm, hp2⟩ := ih (B + 1) st1 (rest.eraseIdx k.toNat) (found ++ [rest[k.toNat]]) (by rw [List.length_eraseIdx_of_lt hk]; omega) (fun d hd => hq d (List.mem_of_mem_eraseIdx hd)) hp1 (by omega) (by simp; omega)
    refine ⟨out, st2, ?_, ?_, hp2.mono (by omega)⟩
    · have e3 : fNe (.lst rest) (.lst []) = some (.bl true) := by
        rw [ne_nil (pds_some.mpr hq)]
        cases rest with
        | nil => simp at hn
        | cons a b => rfl
      have sx : seqIndex? k rest.length = some k.toNat := by
        unfold seqIndex?
        have : ¬ k < 0 := by omega
        simp [this]
        omega
      have ge : rest[k.toNat]? = some rest[k.toNat] := by simp [hk]
      have fw : found.length + 1 ≤ 1000000 := by omega
      have b1 : (-9223372036854775808 : Int) ≤ k := by omega
      have b2 : k < 9223372036854775808 := by omega
      rw [mWhile_eq]
      have body : mExpr (mApp 3 (mPopAt 2 (mCall f__law_draw (mCons (mVar 0) (mCons (mUn fLen (mLook 2)) mNil))))) ⟨[.imm (.loc 0), I0, .own rest, .own found], st⟩ = .ok .nx ⟨[.imm (.loc 0), I0, .own (rest.eraseIdx k.toNat), .own (found ++ [rest[k.toNat]])], st1⟩ := by
        simp [mExpr, mApp, mPopAt, mCall, mCons, mNil, mVar, mUn, fLen, itD, mLook, cur, bnd, DL.ret, lift, e, outR, sx, ge, S.put, few, fw, b1, b2]
      have cond : mBl (mNeV 2 (mFz (mLst mNil))) ⟨[.imm (.loc 0), I0, .own rest, .own found], st⟩ = .ok true ⟨[.imm (.loc 0), I0, .own rest, .own found], st⟩ := by
        simp [mBl, mNeV, mFz, mLst, mNil, bnd, DL.ret, cur, few, lift, e3, optB, isBl]
      rw [bnd_of cond]
      simp only [if_true, body]
      exact e2
    · refine pm.trans ?_
      rw [List.append_assoc]
      refine List.Perm.append_left _ ?_
      refine List.Perm.trans ?_ (perm_eraseD hk)
      exact (List.perm_append_comm)
theorem shuf_specD {B : Nat} {st : List Ob} {ns : List D} (h : IsPen B st) (hq : ∀ d ∈ ns, (pd 49 d).isSome = true) (hB : B + ns.length < 2 ^ 30) (hl : ns.length < 1000) : ∃ (out : List D) (st' : List Ob), f__law_shuffled [.loc 0, .lst ns] st = .ok (.lst out) st' ∧ out.Perm ns ∧ IsPen (B + ns.length) st' := by
  obtain ⟨out, st', e, pm, hp⟩ := shuf_loopD (.imm (.lst ns)) ns.length B st ns [] rfl hq h hB (by simp; omega)
  refine ⟨out, st', ?_, by simpa using pm, hp⟩
  unfold f__law_shuffled fnM m__law_shuffled
  rw [seq_nx (s' := ⟨[.imm (.loc 0), .imm (.lst ns), .own ns, .own []], st⟩) (by simp [mParFF, mUnF, itD, mLook, cur, bnd, DL.ret, mLst, mNil, few, slots, S.put]), seq_nx e]
  simp [mRet, mVar, bnd, S.put, DL.ret, endR]
/-! ### a comprehension that draws -/
theorem lcs_draw {i : Nat} {m : ME} {sl : List Slot} {Q : D → Prop} {c : Nat} {M : Nat} (he : sl[i]? = some .emp) (hx : noX ⟨sl, []⟩ = true) (h : ∀ (B : Nat) (st : List Ob) (d : D), IsPen B st → B + c ≤ M → ∃ z st', m ((⟨sl, st⟩ : S).put i (.imm d)) = .ok z ((⟨sl, st'⟩ : S).put i (.imm d)) ∧ Q z ∧ IsPen (B + c) st') : ∀ (ds acc : List D) (B : Nat) (st : List Ob), IsPen B st → B + c * ds.length ≤ M → few (acc.length + ds.length) →
    ∃ zs st', lcs (gNm i) mYes m [i] acc ds ⟨sl, st⟩ = .ok (acc ++ zs) ⟨sl, st'⟩ ∧ zs.length = ds.length ∧ (∀ z ∈ zs, Q z) ∧ IsPen (B + c * ds.length) st'
  | [], acc, B, st, hp, _, _ => ⟨[], st, by simp [lcs], rfl, fun z hz => (by cases hz), hp⟩
  | d :: ds, acc, B, st, hp, hM, hf => by
    simp only [List.length_cons, Nat.mul_succ] at hM
    obtain ⟨z, st1, e, q, hp1⟩ := h B st d hp (by omega)
    obtain ⟨zs, st2, e2, l2, q2, hp2⟩ := lcs_draw he hx h ds (acc ++ [z]) (B + c) st1 hp1 (by omega) (by unfold few at hf ⊢; simp at hf ⊢; omega)
    have f1 : few (acc.length + 1) := by unfold few at hf ⊢; simp at hf; omega
    have y : mYes ((⟨sl, st⟩ : S).put i (.imm d)) = .ok true ((⟨sl, st⟩ : S).put i (.imm d)) := rfl
    have nx : ∀ st, noX ((⟨sl, st⟩ : S).put i (.imm d)) = true := fun st => noX_put (s := ⟨sl, st⟩) hx
    have wp : wipeS ((⟨sl, st1⟩ : S).put i (.imm d)) [i] = ⟨sl, st1⟩ := wipe_put he
    refine ⟨z :: zs, st2, ?_, by simp [l2], fun x hx' => ?_, hp2.mono (by simp only [List.length_cons, Nat.mul_succ]; omega)⟩
    · unfold lcs
      simp only [gNm, S.puts, y, if_true, e, f1, nx, and_self, wp]
      rw [e2, List.append_assoc]
      rfl
    · rcases List.mem_cons.mp hx' with rfl | hx'
      · exact q
      · exact q2 x hx'
theorem lc_draw {i : Nat} {it : MA} {m : ME} {s0 : S} {sl : List Slot} {Q : D → Prop} {c : Nat} {M B : Nat} {ds : List D} {st : List Ob} (hit : it s0 = .ok ds ⟨sl, st⟩) (hp : IsPen B st) (he : sl[i]? = some .emp) (hx : noX ⟨sl, []⟩ = true) (h : ∀ (B : Nat) (st : List Ob) (d : D), IsPen B st → B + c ≤ M → ∃ z st', m ((⟨sl, st⟩ : S).put i (.imm d)) = .ok z ((⟨sl, st'⟩ : S).put i (.imm d)) ∧ Q z ∧ IsPen (B + c) st')
    (hM : B + c * ds.length ≤ M) (hf : few ds.length) : ∃ zs st', mLc it (gNm i) mYes m [i] s0 = .ok zs ⟨sl, st'⟩ ∧ zs.length = ds.length ∧ (∀ z ∈ zs, Q z) ∧ IsPen (B + c * ds.length) st' := by
  obtain ⟨zs, st', e, l, q, p⟩ := lcs_draw he hx h ds [] B st hp hM (by simpa using hf)
  refine ⟨zs, st', ?_, l, q, p⟩
  unfold mLc
  rw [bnd_of hit]
  have hx' : noX ⟨sl, st⟩ = true := hx
  simp only [hx', if_true, wipe_emp (s := ⟨sl, st⟩) he]
  rw [e, List.nil_append]
end LC

/-! the defs about groups, and what they do -/
namespace LC
open PySem PySem.Spec L2 DL
noncomputable section
def m_orders (r : Fn) : MS := (mSeq (mIfS (mNotT (mTru (mLook 0))) (mRet (mFz (mLst (mCons (mTup mNil) mNil)))) mPass)
  (mSeq (mOwn 1 (mLst mNil))
  (mSeq (mFor (mEnum (mVar 0)) (gTp 2 (gsCons (gNm 2) (gsCons (gNm 3) gsNil))) (mFor (mIt (mCall r (mCons (mBin fAdd (mSlN 0 mNoP (mPart (mVar 2))) (mSlN 0 (mPart (mBin fAdd (mVar 2) (mC (.int 1)))) mNoP)) mNil))) (gNm 4) (mExpr (mApp 1 (mBin fAdd (mTup (mCons (mVar 3) mNil)) (mVar 4))))))
  (mRet (mVar 1)))))
def f_orders : Nat → Fn
  | 0 => fStuck
  | n + 1 => fnM 5 (m_orders (f_orders n))
def m_listed : MS := (mSeq (mIfS (mNotT (mTruN 0)) (mRet (mTup mNil)) mPass)
  (mSeq (mSet 1 (mUn fLen (mBin ixD (mFz (mListS (mLook 0))) (mC (.int 0)))))
  (mRet (mUn fTuple (mFz (mLc (mIt (mCall (f_orders 8) (mCons (mUn (fun d => (rgD d).map .tup) (mVar 1)) mNil))) (gNm 2) (mBl (mHas false (mVar 2) (mVar 0))) (mVar 2) [2]))))))
def f_listed : Fn := fnM 3 m_listed
def m_generated : MS := (mSeq (mFor (mIt (mVar 1)) (gNm 2) (mExpr (mCall f_sized (mCons (mVar 2) (mCons (mVar 0) mNil)))))
  (mSeq (mSet 3 (mUn (fun d => (rgD d).map .tup) (mVar 0)))
  (mSeq (mSet 4 (mDict1T (mVar 3) (mC (.bl true))))
  (mSeq (mOwn 5 (mLst (mCons (mVar 3) mNil)))
  (mSeq (mWhile (mTru (mLook 5)) (mSeq (mSet 6 (mPop 5))
  (mFor (mIt (mVar 1)) (gNm 2) (mSeq (mSet 7 (mCall f_after (mCons (mVar 2) (mCons (mVar 6) mNil))))
  (mIfS (mBl (mHas true (mVar 7) (mVar 4))) (mSeq (mPutT (mVar 4) (mVar 7) (mC (.bl true)))
  (mExpr (mApp 5 (mVar 7)))) mPass)))))
  (mRet (mCall f_listed (mCons (mVar 4) mNil))))))))
def f_generated : Fn := fnM 8 m_generated
def m__law_slots (r : Fn) : MS := (mSeq (mIfS (mBl (mBin fEq (mVar 2) (mC (.int 0)))) (mRet (mFz (mLst (mCons (mTup mNil) mNil)))) mPass)
  (mSeq (mOwn 3 (mLst mNil))
  (mSeq (mFor (mIt (mCall r (mCons (mVar 0) (mCons (mVar 1) (mCons (mBin iSub (mVar 2) (mC (.int 1))) mNil))))) (gNm 4) (mFor (mRng rng2 (mCons (mC (.int 1)) (mCons (mBin fAdd (mVar 0) (mC (.int 1))) mNil))) (gNm 5) (mIfS (mAndT (mBl (mInV true (mVar 5) 4)) (mBl (mInV true (mVar 5) 1))) (mExpr (mApp 3 (mBin fAdd (mVar 4) (mTup (mCons (mVar 5) mNil))))) mPass)))
  (mRet (mVar 3)))))
def f__law_slots : Nat → Fn
  | 0 => fStuck
  | n + 1 => fnM 6 (m__law_slots (f__law_slots n))
def m__law_turns : MS := (mRet (mFz (mLc (mIt (mCall (f__law_slots 8) (mCons (mVar 0) (mCons (mTup mNil) (mCons (mVar 0) mNil))))) (gNm 1) mYes (mUn fTuple (mFz (mLc (mIt (mVar 1)) (gNm 2) mYes (mBin iSub (mVar 2) (mC (.int 1))) [2]))) [1])))
def f__law_turns : Fn := fnM 3 m__law_turns
def m__law_closed : MS := (mSeq (mOwn 2 (mLst (mCons (mUn (fun d => (rgD d).map .tup) (mVar 0)) mNil)))
  (mSeq (mSet 3 (mC (.int 0)))
  (mSeq (mWhile (mBl (mBin iLt (mVar 3) (mUn fLen (mLook 2)))) (mSeq (mFor (mIt (mVar 1)) (gNm 4) (mSeq (mSet 5 (mUn fTuple (mFz (mLc (mIt (mIxN 2 (mVar 3))) (gNm 6) mYes (mIxN 4 (mVar 6)) [6]))))
  (mIfS (mBl (mInV true (mVar 5) 2)) (mExpr (mApp 2 (mVar 5))) mPass)))
  (mSet 3 (mBin fAdd (mVar 3) (mC (.int 1))))))
  (mRet (mUn fTuple (mFz (mLc (mIt (mCall f__law_turns (mCons (mVar 0) mNil))) (gNm 7) (mBl (mInV false (mVar 7) 2)) (mVar 7) [7])))))))
def f__law_closed : Fn := fnM 8 m__law_closed
end
theorem orders_eq {n : Nat} (hn : n < 5) (st : List Ob) : f_orders 8 [tp (rgI n)] st = .ok (.lst ((permsL n).map tp)) st := by
  match n, hn with
  | 0, _ => kernel_rfl
  | 1, _ => kernel_rfl
  | 2, _ => kernel_rfl
  | 3, _ => kernel_rfl
  | 4, _ => kernel_rfl
theorem turns_eq {n : Nat} (hn : n < 5) (st : List Ob) : f__law_turns [.int n] st = .ok (.lst ((permsL n).map tp)) st := by
  match n, hn with
  | 0, _ => kernel_rfl
  | 1, _ => kernel_rfl
  | 2, _ => kernel_rfl
  | 3, _ => kernel_rfl
  | 4, _ => kernel_rfl
theorem listed_eq {n : Nat} (hn : n < 5) (st : List Ob) (F : List (List Int)) (hd : F.head? = some (rgI n)) : f_listed [.loc st.length] (st ++ [.dtt (kvF F)]) = .ok (.tup (((permsL n).filter fun p => decide (p ∈ F)).map tp)) (st ++ [.dtt (kvF F)]) :=
  listed_gen hd (by omega) (orders_eq hn) (by have := permsL_len hn; omega)
theorem sized_pm {n : Nat} {r : List Int} (hn : n < 5) (hr : Pm n r) (st : List Ob) : f_sized [tp r, .int n] st = .ok (tp r) st := by
  have l := hr.len
  have e := sized_ok (p := r) (n := n) (st := st) (by omega) hr.good
  rw [if_pos (by omega)] at e
  exact e
theorem after_pm {n : Nat} {r p : List Int} (hn : n < 5) (hr : Pm n r) (hp : Pm n p) (st : List Ob) : f_after [tp r, tp p] st = .ok (tp (act r p)) st := by
  have l := hr.len
  have l2 := hp.len
  exact after_eq (fun x hx => by have := hp.mem hx; omega) (by omega)
theorem generated_eq {n : Nat} {R : List (List Int)} (hn : n < 5) (hR : ∀ r ∈ R, Pm n r) (hl : R.length ≤ 100) (st : List Ob) : ∃ c, f_generated [.int n, .tup (R.map tp)] st = .ok (.tup ((grp n R).map tp)) (st ++ [c]) :=
  gen_ok hn hR hl (fun r hr => sized_pm hn (hR r hr) st) (fun r hr p hp st => after_pm hn (hR r hr) hp st) (listed_eq hn st)
theorem closed_eq {n : Nat} {R : List (List Int)} (hn : n < 5) (hR : ∀ r ∈ R, Pm n r) (hl : R.length ≤ 100) (st : List Ob) : f__law_closed [.int n, .lst (R.map tp)] st = .ok (.tup ((grp n R).map tp)) st := closed_gen hn hR hl (turns_eq hn st)
end LC

namespace LC
open PySem L2 DL
/-! ### renumbered by c: the plain part -/
def inv (n : Nat) (c : List Int) : List Int := invL (List.replicate n 0) 0 c
/-- c after p after c's inverse -/
def cj (n : Nat) (c p : List Int) : List Int := act (act c p) (inv n c)
/-- the same, place by place -/
def carL (n : Nat) (c p : List Int) : List Int := (rgI n).foldl (fun m i => m.set (gI c i).toNat (gI c (gI p i))) (List.replicate n 0)
def chk2 (n : Nat) (c p : List Int) : Bool := decide (carL n c p = cj n c p) && decide (cj n (inv n c) (cj n c p) = p)
theorem chk2_all : ((List.range 5).all fun n => (permsL n).all fun c => (permsL n).all fun p => chk2 n c p) = true := by decide +kernel
theorem chk2_pm {n : Nat} (hn : n < 5) {c p : List Int} (hc : Pm n c) (hp : Pm n p) : carL n c p = cj n c p ∧ cj n (inv n c) (cj n c p) = p := by
  have h := chk2_all
  rw [List.all_eq_true] at h
  have h1 := h n (List.mem_range.mpr hn)
  rw [List.all_eq_true] at h1
  have h2 := h1 c (mem_permsL.mpr hc)
  rw [List.all_eq_true] at h2
  have h3 := h2 p (mem_permsL.mpr hp)
  unfold chk2 at h3
  simpa using h3
theorem inv_pm {n : Nat} (hn : n < 5) {c : List Int} (hc : Pm n c) : Pm n (inv n c) := (chk_pm hn hc).1
theorem cj_pm {n : Nat} (hn : n < 5) {c p : List Int} (hc : Pm n c) (hp : Pm n p) : Pm n (cj n c p) := act_pm (act_pm hc hp) (inv_pm hn hc)
theorem cj_inj {n : Nat} (hn : n < 5) {c p q : List Int} (hc : Pm n c) (hp : Pm n p) (hq : Pm n q) (e : cj n c p = cj n c q) : p = q := by
  rw [← (chk2_pm hn hc hp).2, ← (chk2_pm hn hc hq).2, e]
theorem subset_of_len {α : Type} [DecidableEq α] {l m : List α} (h : l.Nodup) (s : ∀ x ∈ l, x ∈ m) (hl : m.length ≤ l.length) : ∀ x ∈ m, x ∈ l := fun x hx => by
  by_cases c : x ∈ l
  · exact c
  · have := nodup_len (l := x :: l) (m := m) (List.nodup_cons.mpr ⟨c, h⟩) (fun y hy => by
      rcases List.mem_cons.mp hy with rfl | hy
      · exact hx
      · exact s y hy)
    simp only [List.length_cons] at this
    omega
/-- a list of renumberings, each once, ascending -/
def Nm (n : Nat) (A : List (List Int)) : Prop := (permsL n).filter (fun p => decide (p ∈ A)) = A
theorem permsL_nodup {n : Nat} (hn : n < 5) : (permsL n).Nodup := by
  have h : ((List.range 5).all fun n => decide ((permsL n).Nodup)) = true := by decide +kernel
  rw [List.all_eq_true] at h
  exact of_decide_eq_true (h n (List.mem_range.mpr hn))
theorem Nm.pm {n : Nat} {A : List (List Int)} (h : Nm n A) {p : List Int} (hp : p ∈ A) : Pm n p := by
  rw [← h] at hp
  exact mem_permsL.mp (List.mem_filter.mp hp).1
theorem Nm.nd {n : Nat} (hn : n < 5) {A : List (List Int)} (h : Nm n A) : A.Nodup := by
  have := (permsL_nodup hn).filter (fun p => decide (p ∈ A))
  rw [h] at this
  exact this
theorem nm_filter {n : Nat} (f : List Int → Bool) : Nm n ((permsL n).filter f) := by
  unfold Nm
  refine List.filter_congr fun p hp => ?_
  by_cases c : f p = true
  · rw [c]; exact decide_eq_true (List.mem_filter.mpr ⟨hp, c⟩)
  · have c' : f p = false := by simpa using c
    rw [c']
    exact decide_eq_false fun z => c (List.mem_filter.mp z).2
/-- what carried makes -/
def carr (n : Nat) (A : List (List Int)) (c : List Int) : List (List Int) := (permsL n).filter fun p => decide (p ∈ A.map (carL n c))
def test (n : Nat) (A B : List (List Int)) (c : List Int) : Bool := decide (A.length = B.length) && A.all fun p => decide (cj n c p ∈ B)
theorem map_car {n : Nat} (hn : n < 5) {A : List (List Int)} (hA : Nm n A) {c : List Int} (hc : Pm n c) : A.map (carL n c) = A.map (cj n c) := List.map_congr_left fun p hp => (chk2_pm hn hc (hA.pm hp)).1
theorem map_nd {n : Nat} (hn : n < 5) {A : List (List Int)} (hA : Nm n A) {c : List Int} (hc : Pm n c) : (A.map (cj n c)).Nodup := by
  have nd := hA.nd hn
  have key : ∀ (l : List (List Int)), l.Nodup → (∀ p ∈ l, Pm n p) → (l.map (cj n c)).Nodup := by
    intro l
    induction l with
    | nil => intro _ _; exact List.nodup_nil
    | cons a l ih =>
      intro h hp
      rw [List.nodup_cons] at h
      rw [List.map_cons, List.nodup_cons]
      refine ⟨fun m => ?_, ih h.2 fun p q => hp p (List.mem_cons_of_mem _ q)⟩
      obtain ⟨b, hb, e⟩ := List.mem_map.mp m
      have := cj_inj hn hc (hp b (List.mem_cons_of_mem _ hb)) (hp a List.mem_cons_self) e
      exact h.1 (this ▸ hb)
  exact key A nd fun p hp => hA.pm hp
theorem carr_test {n : Nat} (hn : n < 5) {A B : List (List Int)} (hA : Nm n A) (hB : Nm n B) {c : List Int} (hc : Pm n c) : decide (carr n A c = B) = test n A B c := by
  have nd := map_nd hn hA hc
  unfold carr
  rw [map_car hn hA hc]
  have inP : ∀ x ∈ A.map (cj n c), x ∈ permsL n := fun x hx => by
    obtain ⟨p, hp, rfl⟩ := List.mem_map.mp hx
    exact mem_permsL.mpr (cj_pm hn hc (hA.pm hp))
  have key : ((permsL n).filter (fun p => decide (p ∈ A.map (cj n c))) = B) ↔ (A.length = B.length ∧ ∀ p ∈ A, cj n c p ∈ B) := by
    constructor
    · intro e
      have sub : ∀ x ∈ A.map (cj n c), x ∈ B := fun x hx => by rw [← e]; exact List.mem_filter.mpr ⟨inP x hx, decide_eq_true hx⟩
      have sup : ∀ x ∈ B, x ∈ A.map (cj n c) := fun x hx => by rw [← e] at hx; exact of_decide_eq_true (List.mem_filter.mp hx).2
      refine ⟨?_, fun p hp => sub _ (List.mem_map_of_mem hp)⟩
      have l1 := nodup_len nd sub
      have l2 := nodup_len (hB.nd hn) sup
      rw [List.length_map] at l1 l2
      omega
    · rintro ⟨hl, hs⟩
      have sub : ∀ x ∈ A.map (cj n c), x ∈ B := fun x hx => by
        obtain ⟨p, hp, rfl⟩ := List.mem_map.mp hx
        exact hs p hp
      have sup := subset_of_len nd sub (by rw [List.length_map]; omega)
      rw [← hB]
      refine List.filter_congr fun x _ => ?_
      by_cases m : x ∈ B
      · rw [decide_eq_true m, decide_eq_true (sup x m)]
      · rw [decide_eq_false m, decide_eq_false fun z => m (sub x z)]
  unfold test
  by_cases h : A.length = B.length ∧ ∀ p ∈ A, cj n c p ∈ B
  · rw [decide_eq_true (key.mpr h), decide_eq_true h.1, List.all_eq_true.mpr fun p hp => decide_eq_true (h.2 p hp)]
    rfl
  · rw [decide_eq_false fun z => h (key.mp z)]
    by_cases hl : A.length = B.length
    · have : A.all (fun p => decide (cj n c p ∈ B)) = false := by
        cases ha : A.all (fun p => decide (cj n c p ∈ B)) with
        | false => rfl
        | true => exact absurd ⟨hl, fun p hp => of_decide_eq_true (List.all_eq_true.mp ha p hp)⟩ h
      rw [this, Bool.and_false]
    · rw [decide_eq_false hl, Bool.false_and]
/-- there is one this way exactly if there is one the other way -/
theorem test_back {n : Nat} (hn : n < 5) {A B : List (List Int)} (hA : Nm n A) (hB : Nm n B) : ((permsL n).any (test n A B)) = ((permsL n).any (test n B A)) := by
  have one : ∀ {A B : List (List Int)}, Nm n A → Nm n B → ((permsL n).any (test n A B)) = true → ((permsL n).any (test n B A)) = true := by
    intro A B hA hB h
    rw [List.any_eq_true] at h ⊢
    obtain ⟨c, hc, t⟩ := h
    have pc := mem_permsL.mp hc
    unfold test at t
    rw [Bool.and_eq_true, decide_eq_true_eq, List.all_eq_true] at t
    refine ⟨inv n c, mem_permsL.mpr (inv_pm hn pc), ?_⟩
    unfold test
    rw [Bool.and_eq_true, decide_eq_true_eq, List.all_eq_true]
    refine ⟨t.1.symm, fun q hq => decide_eq_true ?_⟩
    have sup := subset_of_len (map_nd hn hA pc) (fun x hx => by
      obtain ⟨p, hp, rfl⟩ := List.mem_map.mp hx
      exact of_decide_eq_true (t.2 p hp)) (by rw [List.length_map]; omega) q hq
    obtain ⟨p, hp, rfl⟩ := List.mem_map.mp sup
    rw [(chk2_pm hn pc (hA.pm hp)).2]
    exact hp
  cases h1 : (permsL n).any (test n A B) with
  | true => exact (one hA hB h1).symm
  | false =>
    cases h2 : (permsL n).any (test n B A) with
    | false => rfl
    | true => rw [one hB hA h2] at h1; cases h1
end LC

namespace LC
open PySem L2 DL
/-! ### carried -/
theorem ret_tup {M : MA} {s s' : S} {out : List D} (k : M s = .ok out s') : endR (mRet (mUn fTuple (mFz M)) s) = .ok (.tup out) s'.st := by
  simp [mRet, mUn, fTuple, itD, mFz, bnd, DL.ret, lift, k, endR]
abbrev kbody : MS := mSetIx 5 (mIxN 2 (mVar 6)) (mIxN 2 (mIxN 4 (mVar 6)))
section
variable {nn gg : D} {st : List Ob} {n : Nat} {c p : List Int}
theorem gI_pm {n : Nat} {c : List Int} (hc : Pm n c) {i : Int} (h0 : 0 ≤ i) (h1 : i < n) : 0 ≤ gI c i ∧ gI c i < n := by
  have hk : i.toNat < c.length := by rw [hc.len]; omega
  have : gI c i ∈ c := by
    unfold gI
    rw [List.getElem?_eq_getElem hk, Option.getD_some]
    exact List.getElem_mem hk
  exact hc.mem this
theorem kbody_gen {l5 l5' : List D} {tc tpp i x y z : D} {f3 : Slot} {k : Nat} {j : Int} (e1 : ixD tpp i = some x) (e2 : ixD tc x = some y) (e3 : ixD tc i = some (.int j)) (e4 : ixN l5.length j = some k) (e5 : l5.set k y = l5') : kbody ⟨[.imm nn, .imm gg, .imm tc, f3, .imm tpp, .own l5, .imm i, .emp], st⟩ = .ok .nx ⟨[.imm nn, .imm gg, .imm tc, f3, .imm tpp, .own l5', .imm i, .emp], st⟩ := by
  subst e5
  simp [kbody, mSetIx, mIxN, mIxV, mVar, cur, bnd, DL.ret, e1, e2, e3, lift, e4, S.put]
theorem k_for (hc : Pm n c) (hp : Pm n p) {f3 : Slot} : ∀ (is m : List Int) (r6 : Slot), (∀ i ∈ is, 0 ≤ i ∧ i < n) → m.length = n → ∃ r6', fo (gNm 6) kbody (is.map .int) ⟨[.imm nn, .imm gg, .imm (tp c), f3, .imm (tp p), .own (m.map .int), r6, .emp], st⟩ = .ok .nx ⟨[.imm nn, .imm gg, .imm (tp c), f3, .imm (tp p), .own ((is.foldl (fun m i => m.set (gI c i).toNat (gI c (gI p i))) m).map .int), r6', .emp], st⟩ ∧ (is.foldl (fun m i => m.set (gI c i).toNat (gI c (gI p i))) m).length = n ∧ (r6' = r6 ∨ ∃ d, r6' = .imm d)
  | [], m, r6, _, hm => ⟨r6, rfl, hm, .inl rfl⟩
  | i :: is, m, r6, h, hm => by
    obtain ⟨h0, h1⟩ := h i List.mem_cons_self
    have lc := hc.len
    have lp := hp.len
    obtain ⟨a0, a1⟩ := gI_pm hp h0 h1
    obtain ⟨b0, b1⟩ := gI_pm hc h0 h1
    have e1 : ixD (tp p) (.int i) = some (.int (gI p i)) := atI_int h0 (by omega)
    have e2 : ixD (tp c) (.int (gI p i)) = some (.int (gI c (gI p i))) := atI_int a0 (by omega)
    have e3 : ixD (tp c) (.int i) = some (.int (gI c i)) := atI_int h0 (by omega)
    have e4 : ixN (m.map D.int).length (gI c i) = some (gI c i).toNat := by
      unfold ixN
      rw [if_pos b0, if_pos (by simp; omega)]
    have k := kbody_gen (nn := nn) (gg := gg) (st := st) (z := .non) (f3 := f3) e1 e2 e3 e4 (set_map m _ _)
    obtain ⟨r6', e, l, q⟩ := k_for hc hp is (m.set (gI c i).toNat (gI c (gI p i))) (.imm (.int i)) (fun x hx => h x (List.mem_cons_of_mem _ hx)) (by rw [List.length_set]; exact hm)
    refine ⟨r6', ?_, l, ?_⟩
    · rw [List.map_cons, fo]
      simp only [gNm, S.puts, S.put, List.set_cons_succ, List.set_cons_zero]
      rw [k]
      exact e
    · rcases q with q | q
      · exact .inr ⟨_, q⟩
      · exact .inr q
abbrev obody (rp : D → D → Option (List D)) (rr : List D → Option (List D)) : MS := mSeq (mOwn 5 (mBinF rp (mFz (mLst (mCons (mC (.int 0)) mNil))) (mVar 0)))
  (mSeq (mFor (mRng rr (mCons (mVar 0) mNil)) (gNm 6) kbody)
  (mExpr (mApp 3 (mUn fTuple (mLook 5)))))
theorem o1_gen {rp : D → D → Option (List D)} {l : List D} {tc tpp : D} {f3 r5 r6 : Slot} (e : rp (.lst [.int 0]) nn = some l) : mOwn 5 (mBinF rp (mFz (mLst (mCons (mC (.int 0)) mNil))) (mVar 0)) ⟨[.imm nn, .imm gg, .imm tc, f3, .imm tpp, r5, r6, .emp], st⟩ = .ok .nx ⟨[.imm nn, .imm gg, .imm tc, f3, .imm tpp, .own l, r6, .emp], st⟩ := by
  simp [mOwn, mBinF, mFz, mLst, mCons, mC, mNil, bnd, DL.ret, few, mVar, e, S.put]
theorem o2_gen {rr : List D → Option (List D)} {L : List D} {tc tpp : D} {f3 r5 r6 : Slot} (e : rr [nn] = some L) : mRng rr (mCons (mVar 0) mNil) ⟨[.imm nn, .imm gg, .imm tc, f3, .imm tpp, r5, r6, .emp], st⟩ = .ok L ⟨[.imm nn, .imm gg, .imm tc, f3, .imm tpp, r5, r6, .emp], st⟩ := by
  simp [mRng, mCons, mVar, mNil, bnd, DL.ret, e]
theorem o3_gen {l3 l5 : List D} {tc tpp : D} {r6 : Slot} (h : l3.length + 1 ≤ 1000000) : mExpr (mApp 3 (mUn fTuple (mLook 5))) ⟨[.imm nn, .imm gg, .imm tc, .own l3, .imm tpp, .own l5, r6, .emp], st⟩ = .ok .nx ⟨[.imm nn, .imm gg, .imm tc, .own (l3 ++ [.tup l5]), .imm tpp, .own l5, r6, .emp], st⟩ := by
  simp [mExpr, mApp, mUn, fTuple, mLook, cur, itD, bnd, lift, DL.ret, few, h, S.put]
theorem rng_n {n : Nat} (h : n ≤ 1000) : rng1 [.int n] = some ((rgI n).map .int) := by
  simp only [rng1]
  rw [if_pos ⟨by omega, by omega⟩, Int.toNat_natCast, rg_eq]
theorem o_for {rp : D → D → Option (List D)} {rr : List D → Option (List D)} (hrp : rp (.lst [.int 0]) (.int n) = some ((List.replicate n (0 : Int)).map .int)) (hrr : rr [.int n] = some ((rgI n).map .int)) (hc : Pm n c) : ∀ (A F : List (List Int)) (r4 r5 r6 : Slot), (∀ p ∈ A, Pm n p) → F.length + A.length < 900 → ∃ r4' r5' r6', fo (gNm 4) (obody rp rr) (A.map tp) ⟨[.imm (.int n), .imm gg, .imm (tp c), .own (F.map tp), r4, r5, r6, .emp], st⟩ = .ok .nx ⟨[.imm (.int n), .imm gg, .imm (tp c), .own ((F ++ A.map (carL n c)).map tp), r4', r5', r6', .emp], st⟩ ∧ ((A = [] ∧ r4' = r4 ∧ r5' = r5 ∧ r6' = r6) ∨ ((∃ d, r4' = .imm d) ∧ (∃ l, r5' = .own l) ∧ (r6' = r6 ∨ ∃ d, r6' = .imm d)))
  | [], F, r4, r5, r6, _, _ => ⟨r4, r5, r6, by rw [List.map_nil, List.map_nil, List.append_nil]; rfl, .inl ⟨rfl, rfl, rfl, rfl⟩⟩
  | p :: A, F, r4, r5, r6, h, hF => by
    simp only [List.length_cons] at hF
    have hp := h p List.mem_cons_self
    obtain ⟨r6a, e, l, q⟩ := k_for hc hp (nn := .int n) (gg := gg) (st := st) (f3 := .own (F.map tp)) (rgI n) (List.replicate n 0) r6 (fun i hi => rgI_mem.mp hi) (by simp)
    have s1 := o1_gen (nn := .int n) (gg := gg) (st := st) (tc := tp c) (tpp := tp p) (f3 := .own (F.map tp)) (r5 := r5) (r6 := r6) hrp
    have s2 : mFor (mRng rr (mCons (mVar 0) mNil)) (gNm 6) kbody ⟨[.imm (.int n), .imm gg, .imm (tp c), .own (F.map tp), .imm (tp p), .own ((List.replicate n (0 : Int)).map .int), r6, .emp], st⟩ = .ok .nx ⟨[.imm (.int n), .imm gg, .imm (tp c), .own (F.map tp), .imm (tp p), .own ((carL n c p).map .int), r6a, .emp], st⟩ := by
      unfold mFor
      rw [bnd_of (o2_gen hrr)]
      exact e
    have s3 := o3_gen (nn := .int n) (gg := gg) (st := st) (l3 := F.map tp) (l5 := (carL n c p).map .int) (tc := tp c) (tpp := tp p) (r6 := r6a) (by simp; omega)
    have body : obody rp rr ⟨[.imm (.int n), .imm gg, .imm (tp c), .own (F.map tp), .imm (tp p), r5, r6, .emp], st⟩ = .ok .nx ⟨[.imm (.int n), .imm gg, .imm (tp c), .own ((F ++ [carL n c p]).map tp), .imm (tp p), .own ((carL n c p).map .int), r6a, .emp], st⟩ := by
      unfold obody
      rw [seq_nx s1, seq_nx s2, s3, List.map_append]
      rfl
    obtain ⟨r4', r5', r6', e2, q2⟩ := o_for hrp hrr hc A (F ++ [carL n c p]) (.imm (tp p)) (.own ((carL n c p).map .int)) r6a (fun x hx => h x (List.mem_cons_of_mem _ hx)) (by simp; omega)
    refine ⟨r4', r5', r6', ?_, .inr ?_⟩
    · rw [List.map_cons, fo]
      simp only [gNm, S.puts, S.put, List.set_cons_succ, List.set_cons_zero]
      rw [body, List.map_cons]
      rw [List.append_assoc] at e2
      exact e2
    · rcases q2 with ⟨_, rfl, rfl, rfl⟩ | ⟨a1, a2, a3⟩
      · exact ⟨⟨_, rfl⟩, ⟨_, rfl⟩, q⟩
      · refine ⟨a1, a2, ?_⟩
        rcases a3 with rfl | a3
        · exact q
        · exact .inr a3
theorem carried_gen {ft : Fn} {rp : D → D → Option (List D)} {rr : List D → Option (List D)} (hrp : rp (.lst [.int 0]) (.int n) = some ((List.replicate n (0 : Int)).map .int)) (hrr : rr [.int n] = some ((rgI n).map .int)) {A : List (List Int)} (hn : n < 5) (hc : Pm n c) (hA : ∀ p ∈ A, Pm n p) (hl : A.length ≤ 100) (ht : ft [.int n] st = .ok (.lst ((permsL n).map tp)) st) :
    fnM 8 (mSeq (mOwn 3 (mLst mNil)) (mSeq (mFor (mIt (mVar 1)) (gNm 4) (obody rp rr)) (mRet (mUn fTuple (mFz (mLc (mIt (mCall ft (mCons (mVar 0) mNil))) (gNm 7) (mBl (mInV false (mVar 7) 3)) (mVar 7) [7])))))) [.int n, .tup (A.map tp), tp c] st = .ok (.tup ((carr n A c).map tp)) st := by
  obtain ⟨r4, r5, r6, e, q⟩ := o_for (gg := .tup (A.map tp)) (st := st) hrp hrr hc A [] .emp .emp .emp hA (by simp; omega)
  have nx : noX ⟨[.imm (.int n), .imm (.tup (A.map tp)), .imm (tp c), .own ((A.map (carL n c)).map tp), r4, r5, r6, .emp], st⟩ = true := by
    rcases q with ⟨_, rfl, rfl, rfl⟩ | ⟨⟨d, rfl⟩, ⟨l, rfl⟩, rfl | ⟨d', rfl⟩⟩ <;> rfl
  rw [List.nil_append] at e
  have s1 : mOwn 3 (mLst mNil) ⟨slots 8 [.int n, .tup (A.map tp), tp c], st⟩ = .ok .nx ⟨[.imm (.int n), .imm (.tup (A.map tp)), .imm (tp c), .own (([] : List (List Int)).map tp), .emp, .emp, .emp, .emp], st⟩ := by
    simp [mOwn, mLst, mNil, bnd, DL.ret, slots, few, S.put]
  have s2 : mFor (mIt (mVar 1)) (gNm 4) (obody rp rr) ⟨[.imm (.int n), .imm (.tup (A.map tp)), .imm (tp c), .own (([] : List (List Int)).map tp), .emp, .emp, .emp, .emp], st⟩ = .ok .nx ⟨[.imm (.int n), .imm (.tup (A.map tp)), .imm (tp c), .own ((A.map (carL n c)).map tp), r4, r5, r6, .emp], st⟩ := by
    unfold mFor
    rw [bnd_of (a := A.map tp) (s' := ⟨[.imm (.int n), .imm (.tup (A.map tp)), .imm (tp c), .own (([] : List (List Int)).map tp), .emp, .emp, .emp, .emp], st⟩) (by simp [mIt, mVar, bnd, itD])]
    exact e
  have k := lc_pick (i := 7) (it := mIt (mCall ft (mCons (mVar 0) mNil))) (t := mBl (mInV false (mVar 7) 3)) (P := fun d => decide (itsI d ∈ A.map (carL n c))) (s0 := ⟨[.imm (.int n), .imm (.tup (A.map tp)), .imm (tp c), .own ((A.map (carL n c)).map tp), r4, r5, r6, .emp], st⟩) (s := ⟨[.imm (.int n), .imm (.tup (A.map tp)), .imm (tp c), .own ((A.map (carL n c)).map tp), r4, r5, r6, .emp], st⟩) (ds := (permsL n).map tp) (by
    simp [mIt, mCall, mCons, mVar, mNil, bnd, DL.ret, ht, outR, itD]) rfl nx (fun d hd => by
    obtain ⟨p, _, rfl⟩ := List.mem_map.mp hd
    have q := fInQ_tp false p (A.map (carL n c))
    rw [ints_tp]
    simp only [Bool.false_eq_true, if_false] at q
    simp only [mBl, mInV, mVar, bnd, S.put, List.set_cons_succ, List.set_cons_zero, List.getElem?_cons_succ, List.getElem?_cons_zero, cur, q, lift, DL.ret, optB, isBl]) (by unfold few; have := permsL_len hn; simp; omega)
  rw [filter_tp (f := fun p => decide (p ∈ A.map (carL n c)))] at k
  unfold fnM
  rw [seq_nx s1, seq_nx s2]
  exact ret_tup k
end
end LC

namespace LC
open PySem L2 DL
/-! ### conjugate -/
theorem dcs_tp {i : Nat} {s : S} (he : s.sl[i]? = some .emp) (hx : noX s = true) : ∀ (B F : List (List Int)), (F ++ B).Nodup → F.length + B.length < 900 → dcs (gNm i) mYes (mVar i) (mC (.bl true)) [i] (kvF F) (B.map tp) s = .ok (kvF (F ++ B)) s
  | [], F, _, _ => by rw [List.append_nil]; rfl
  | p :: B, F, nd, hl => by
    simp only [List.length_cons] at hl
    have hi : i < s.sl.length := (List.getElem?_eq_some_iff.mp he).1
    have hp : p ∉ F := fun m => by
      rw [List.nodup_append] at nd
      exact nd.2.2 p m p List.mem_cons_self rfl
    have ih := dcs_tp he hx B (F ++ [p]) (by rw [List.append_assoc]; exact nd) (by simp; omega)
    have v : mVar i (s.put i (.imm (tp p))) = .ok (tp p) (s.put i (.imm (tp p))) := by simp [mVar, S.put, hi]
    have k := keyD_tp p
    have pk := put_kv hp
    have kl := kv_len F
    have y : mYes (s.put i (.imm (tp p))) = .ok true (s.put i (.imm (tp p))) := rfl
    have c : mC (.bl true) (s.put i (.imm (tp p))) = .ok (.bl true) (s.put i (.imm (tp p))) := rfl
    have f : (kvF F).length < 1000 ∧ noX (s.put i (.imm (tp p))) = true := ⟨by omega, noX_put hx⟩
    rw [List.map_cons]
    unfold dcs
    simp only [gNm, S.puts, y, if_true, v, c, k, f, and_self, pk, wipe_put he]
    have e : F ++ p :: B = F ++ [p] ++ B := by simp
    rw [e]
    exact ih
theorem dc_tp {i : Nat} {it : MA} {s0 s : S} {B : List (List Int)} (hit : it s0 = .ok (B.map tp) s) (he : s.sl[i]? = some .emp) (hx : noX s = true) (nd : B.Nodup) (hl : B.length < 900) : mDc it (gNm i) mYes (mVar i) (mC (.bl true)) [i] s0 = .ok (.loc s.st.length) { s with st := s.st ++ [.dtt (kvF B)] } := by
  unfold mDc
  rw [bnd_of hit]
  simp only [hx, if_true, wipe_emp he]
  have := dcs_tp he hx B [] (by simpa using nd) (by simpa using hl)
  rw [show kvF [] = [] from rfl] at this
  rw [this, List.nil_append]
  rfl
abbrev qM (fa fb : Fn) : MA := mLc (mIt (mVar 0)) (gNm 4) mYes (mHas false (mCall fa (mCons (mCall fa (mCons (mVar 3) (mCons (mVar 4) mNil))) (mCons (mCall fb (mCons (mVar 3) mNil)) mNil))) (mVar 2)) [4]
abbrev qbody (fa fb : Fn) : MS := mIfS (mAndT (mBl (mBin fEq (mUn fLen (mLook 0)) (mUn fLen (mLook 1)))) (mTru (mUn fAll (mFz (qM fa fb))))) (mRet (mVar 3)) mPass
section
variable {fa fb : Fn} {n : Nat} {A B : List (List Int)} {st0 : List Ob}
abbrev qS (A B : List (List Int)) (st0 : List Ob) (r3 : Slot) : S := ⟨[.imm (.tup (A.map tp)), .imm (.tup (B.map tp)), .imm (.loc st0.length), r3, .emp], st0 ++ [.dtt (kvF B)]⟩
theorem has_gen {s : S} {c p x y w : D} {st : List Ob} {r0 r1 : Slot} {k : Nat} {b : Bool} (e1 : fa [c, p] st = .ok x st) (e2 : fb [c] st = .ok y st) (e3 : fa [x, y] st = .ok w st) (e4 : hasT false w (.loc k) ⟨[r0, r1, .imm (.loc k), .imm c, .imm p], st⟩ = some b) : mHas false (mCall fa (mCons (mCall fa (mCons (mVar 3) (mCons (mVar 4) mNil))) (mCons (mCall fb (mCons (mVar 3) mNil)) mNil))) (mVar 2) ⟨[r0, r1, .imm (.loc k), .imm c, .imm p], st⟩ = .ok (.bl b) ⟨[r0, r1, .imm (.loc k), .imm c, .imm p], st⟩ := by
  simp [mHas, mCall, mCons, mVar, mNil, bnd, DL.ret, e1, e2, e3, outR, e4]
theorem qM_eq {c : List Int} (ha : ∀ r p, Pm n r → Pm n p → ∀ st, fa [tp r, tp p] st = .ok (tp (act r p)) st) (hb : ∀ r, Pm n r → ∀ st, fb [tp r] st = .ok (tp (inv n r)) st) (hn : n < 5) (hc : Pm n c) (hA : ∀ p ∈ A, Pm n p) (lA : A.length ≤ 100) :
    qM fa fb (qS A B st0 (.imm (tp c))) = .ok (A.map fun p => .bl (decide (cj n c p ∈ B))) (qS A B st0 (.imm (tp c))) := by
  have k := lc_map (i := 4) (it := mIt (mVar 0)) (m := mHas false (mCall fa (mCons (mCall fa (mCons (mVar 3) (mCons (mVar 4) mNil))) (mCons (mCall fb (mCons (mVar 3) mNil)) mNil))) (mVar 2)) (f := fun d => .bl (decide (cj n c (itsI d) ∈ B))) (s0 := qS A B st0 (.imm (tp c))) (s := qS A B st0 (.imm (tp c))) (ds := A.map tp) (by simp [mIt, mVar, bnd, itD]) rfl rfl (fun d hd => by
    obtain ⟨p, hp, rfl⟩ := List.mem_map.mp hd
    rw [ints_tp]
    have pp := hA p hp
    have h4 : hasT false (tp (cj n c p)) (.loc st0.length) ⟨[.imm (.tup (A.map tp)), .imm (.tup (B.map tp)), .imm (.loc st0.length), .imm (tp c), .imm (tp p)], st0 ++ [.dtt (kvF B)]⟩ = some (decide (cj n c p ∈ B)) := by
      simp only [hasT, keyD_tp, get_end, val_kv, Bool.false_eq_true, if_false]
    exact has_gen (s := qS A B st0 (.imm (tp c))) (ha c p hc pp _) (hb c hc _) (ha (act c p) (inv n c) (act_pm hc pp) (inv_pm hn hc) _) h4) (by unfold few; simp; omega)
  have e : (A.map tp).map (fun d => D.bl (decide (cj n c (itsI d) ∈ B))) = A.map fun p => .bl (decide (cj n c p ∈ B)) := by
    rw [List.map_map]
    refine List.map_congr_left fun p _ => ?_
    simp [ints_tp]
  rw [e] at k
  exact k
theorem q_gen {M : MA} {a b w c la lb : D} {L : List D} {st : List Ob} {x y : Bool} (e1 : fLen a = some la) (e2 : fLen b = some lb) (e3 : fEq la lb = some (.bl x)) (k : M ⟨[.imm a, .imm b, .imm w, .imm c, .emp], st⟩ = .ok L ⟨[.imm a, .imm b, .imm w, .imm c, .emp], st⟩) (e4 : fAll (.lst L) = some (.bl y)) : mIfS (mAndT (mBl (mBin fEq (mUn fLen (mLook 0)) (mUn fLen (mLook 1)))) (mTru (mUn fAll (mFz M)))) (mRet (mVar 3)) mPass ⟨[.imm a, .imm b, .imm w, .imm c, .emp], st⟩ = .ok (if (x && y) = true then .rt c else .nx) ⟨[.imm a, .imm b, .imm w, .imm c, .emp], st⟩ := by
  cases x with
  | false => simp [mIfS, mAndT, mBl, mBin, mUn, mLook, cur, bnd, e1, e2, e3, lift, DL.ret, optB, isBl, mPass]
  | true => cases y <;> simp [mIfS, mAndT, mBl, mBin, mUn, mLook, cur, bnd, e1, e2, e3, lift, DL.ret, optB, isBl, mPass, mTru, mFz, k, e4, tru, mRet, mVar]
theorem qbody_eq {c : List Int} (ha : ∀ r p, Pm n r → Pm n p → ∀ st, fa [tp r, tp p] st = .ok (tp (act r p)) st) (hb : ∀ r, Pm n r → ∀ st, fb [tp r] st = .ok (tp (inv n r)) st) (hn : n < 5) (hc : Pm n c) (hA : ∀ p ∈ A, Pm n p) (lA : A.length ≤ 100) :
    qbody fa fb (qS A B st0 (.imm (tp c))) = .ok (if test n A B c = true then .rt (tp c) else .nx) (qS A B st0 (.imm (tp c))) := by
  have k := qM_eq (B := B) (st0 := st0) ha hb hn hc hA lA
  have e1 : fLen (.tup (A.map tp)) = some (.int A.length) := by simp [fLen, itD]
  have e2 : fLen (.tup (B.map tp)) = some (.int B.length) := by simp [fLen, itD]
  have e3 : fEq (.int A.length) (.int B.length) = some (.bl (decide (A.length = B.length))) := by
    have : ((A.length : Int) == (B.length : Int)) = decide (A.length = B.length) := by
      by_cases h : A.length = B.length
      · simp [h]
      · have : (A.length : Int) ≠ B.length := by omega
        simp [h, this]
    show (some ((A.length : Int) == (B.length : Int))).map D.bl = _
    rw [this]; rfl
  have e4 : fAll (.lst (A.map fun p => .bl (decide (cj n c p ∈ B)))) = some (.bl (A.all fun p => decide (cj n c p ∈ B))) := by
    have b : ∀ A : List (List Int), blsD (A.map fun p => .bl (decide (cj n c p ∈ B))) = some (A.map fun p => decide (cj n c p ∈ B)) := by
      intro A
      induction A with
      | nil => rfl
      | cons a A ih => simp [blsD, ih]
    simp only [fAll, b, Option.map_some]
    rw [List.all_map]
    rfl
  exact q_gen e1 e2 e3 k e4
theorem q_for (ha : ∀ r p, Pm n r → Pm n p → ∀ st, fa [tp r, tp p] st = .ok (tp (act r p)) st) (hb : ∀ r, Pm n r → ∀ st, fb [tp r] st = .ok (tp (inv n r)) st) (hn : n < 5) (hA : ∀ p ∈ A, Pm n p) (lA : A.length ≤ 100) : ∀ (P : List (List Int)) (r3 : Slot), (∀ c ∈ P, Pm n c) → ∃ r3', fo (gNm 3) (qbody fa fb) (P.map tp) (qS A B st0 r3) = .ok (match P.find? (test n A B) with | some c => .rt (tp c) | none => .nx) (qS A B st0 r3')
  | [], r3, _ => ⟨r3, rfl⟩
  | c :: P, r3, h => by
    have q := qbody_eq (A := A) (B := B) (st0 := st0) ha hb hn (h c List.mem_cons_self) hA lA
    rw [List.map_cons]
    unfold fo
    simp only [gNm, S.puts, S.put, List.set_cons_succ, List.set_cons_zero]
    rw [q]
    cases ht : test n A B c with
    | true => exact ⟨.imm (tp c), by simp [List.find?_cons, ht]⟩
    | false =>
      obtain ⟨r3', e⟩ := q_for ha hb hn hA lA P (.imm (tp c)) fun x hx => h x (List.mem_cons_of_mem _ hx)
      refine ⟨r3', ?_⟩
      simp only [Bool.false_eq_true, if_false, List.find?_cons, ht]
      exact e
theorem it_gen {fo_ : Fn} {rg : D → Option (List D)} {a b w x k : D} {ds L : List D} {st : List Ob} {r3 : Slot} (e1 : ixD a (.int 0) = some x) (e2 : fLen x = some k) (e3 : rg k = some L) (e4 : fo_ [.tup L] st = .ok (.lst ds) st) : mIt (mCall fo_ (mCons (mUn (fun d => (rg d).map .tup) (mUn fLen (mIxN 0 (mC (.int 0))))) mNil)) ⟨[.imm a, .imm b, .imm w, r3, .emp], st⟩ = .ok ds ⟨[.imm a, .imm b, .imm w, r3, .emp], st⟩ := by
  simp [mIt, mCall, mCons, mUn, mIxN, mIxV, cur, mC, mNil, bnd, DL.ret, e1, e2, e3, lift, e4, outR, itD]
theorem conj_gen {fo_ : Fn} {rg : D → Option (List D)} (hrg : rg (.int n) = some ((rgI n).map .int)) (ho : ∀ st, fo_ [tp (rgI n)] st = .ok (.lst ((permsL n).map tp)) st) (ha : ∀ r p, Pm n r → Pm n p → ∀ st, fa [tp r, tp p] st = .ok (tp (act r p)) st) (hb : ∀ r, Pm n r → ∀ st, fb [tp r] st = .ok (tp (inv n r)) st) (hn : n < 5) (hA : ∀ p ∈ A, Pm n p) (lA : A.length ≤ 100) (h0 : A ≠ []) (nB : B.Nodup) (lB : B.length ≤ 100) :
    fnM 5 (mSeq (mSet 2 (mDc (mIt (mVar 1)) (gNm 4) mYes (mVar 4) (mC (.bl true)) [4])) (mSeq (mFor (mIt (mCall fo_ (mCons (mUn (fun d => (rg d).map .tup) (mUn fLen (mIxN 0 (mC (.int 0))))) mNil))) (gNm 3) (qbody fa fb)) (mRet (mC .non)))) [.tup (A.map tp), .tup (B.map tp)] st0 = .ok (match (permsL n).find? (test n A B) with | some c => tp c | none => .non) (st0 ++ [.dtt (kvF B)]) := by
  have d := dc_tp (i := 4) (it := mIt (mVar 1)) (s0 := ⟨[.imm (.tup (A.map tp)), .imm (.tup (B.map tp)), .emp, .emp, .emp], st0⟩) (s := ⟨[.imm (.tup (A.map tp)), .imm (.tup (B.map tp)), .emp, .emp, .emp], st0⟩) (B := B) (by simp [mIt, mVar, bnd, itD]) rfl rfl nB (by omega)
  have s1 : mSet 2 (mDc (mIt (mVar 1)) (gNm 4) mYes (mVar 4) (mC (.bl true)) [4]) ⟨slots 5 [.tup (A.map tp), .tup (B.map tp)], st0⟩ = .ok .nx (qS A B st0 .emp) := by
    show bnd _ _ ⟨[.imm (.tup (A.map tp)), .imm (.tup (B.map tp)), .emp, .emp, .emp], st0⟩ = _
    rw [bnd_of d]
    rfl
  obtain ⟨r3, e⟩ := q_for (A := A) (B := B) (st0 := st0) ha hb hn hA lA (permsL n) .emp fun c hc => mem_permsL.mp hc
  have s2 : mFor (mIt (mCall fo_ (mCons (mUn (fun d => (rg d).map .tup) (mUn fLen (mIxN 0 (mC (.int 0))))) mNil))) (gNm 3) (qbody fa fb) (qS A B st0 .emp) = .ok (match (permsL n).find? (test n A B) with | some c => .rt (tp c) | none => .nx) (qS A B st0 r3) := by
    obtain ⟨p, A', rfl⟩ : ∃ p A', A = p :: A' := by
      cases A with
      | nil => exact absurd rfl h0
      | cons p A' => exact ⟨p, A', rfl⟩
    have e1 : ixD (.tup ((p :: A').map tp)) (.int 0) = some (tp p) := by simp [ixD, atI, ixN]
    have e2 : fLen (tp p) = some (.int n) := by
      have := (hA p List.mem_cons_self).len
      simp [fLen, itD, this]
    unfold mFor
    rw [bnd_of (it_gen e1 e2 hrg (ho _))]
    exact e
  unfold fnM
  rw [seq_nx s1]
  cases hf : (permsL n).find? (test n A B) with
  | some c =>
    rw [hf] at s2
    rw [seq_rt s2]
    rfl
  | none =>
    rw [hf] at s2
    rw [seq_nx s2]
    rfl
end
end LC

namespace LC
open PySem L2 DL
/-! ### a renumbering made of exchanges -/
def swap2 (sp m : List Int) (a : Int) : List Int := (m.set (gI sp a).toNat (gI sp (a + 1))).set (gI sp (a + 1)).toNat (gI sp a)
def ats : Nat → List Int
  | 0 => [] | 1 => [] | 2 => [0] | 3 => [0] | _ => [0, 2]
def swpL (n : Nat) (sp : List Int) : List Int := (ats sp.length).foldl (swap2 sp) (rgI n)
theorem swp_all : ((List.range 5).all fun n => (permsL n).all fun q => (List.range 3).all fun m => (swpL n (q.take (2 * m))).isPerm (rgI n)) = true := by decide +kernel
theorem swp_pm {n m : Nat} (hn : n < 5) {q : List Int} (hq : Pm n q) (hm : m < 3) : Pm n (swpL n (q.take (2 * m))) := by
  have h := swp_all
  rw [List.all_eq_true] at h
  have h1 := h n (List.mem_range.mpr hn)
  rw [List.all_eq_true] at h1
  have h2 := h1 q (mem_permsL.mpr hq)
  rw [List.all_eq_true] at h2
  exact List.isPerm_iff.mp (h2 m (List.mem_range.mpr hm))
theorem rng3_ats {k : Nat} (hk : k ≤ 4) : rng3 [.int 0, .int ((k : Int) - 1), .int 2] = some ((ats k).map .int) := by
  match k, hk with
  | 0, _ => kernel_rfl
  | 1, _ => kernel_rfl
  | 2, _ => kernel_rfl
  | 3, _ => kernel_rfl
  | 4, _ => kernel_rfl
theorem ats_ok {k : Nat} {a : Int} (hk : k ≤ 4) (h : a ∈ ats k) : 0 ≤ a ∧ a + 1 < k := by
  match k, hk with
  | 0, _ => cases h
  | 1, _ => cases h
  | 2, _ => simp [ats] at h; omega
  | 3, _ => simp [ats] at h; omega
  | 4, _ => simp [ats] at h; omega
abbrev wbody : MS := mSeq (mSetIx 7 (mIxN 6 (mVar 8)) (mIxN 6 (mBin fAdd (mVar 8) (mC (.int 1))))) (mSetIx 7 (mIxN 6 (mBin fAdd (mVar 8) (mC (.int 1)))) (mIxN 6 (mVar 8)))
section
variable {r0 r1 r2 r3 r4 r5 r9 r10 r11 r12 r13 r14 r15 r16 : Slot} {st : List Ob}
abbrev wS (r0 r1 r2 r3 r4 r5 r9 r10 r11 r12 r13 r14 r15 r16 : Slot) (st : List Ob) (d6 : D) (l7 : List D) (r8 : Slot) : S := ⟨[r0, r1, r2, r3, r4, r5, .imm d6, .own l7, r8, r9, r10, r11, r12, r13, r14, r15, r16], st⟩
theorem w_gen {sp i i1 : D} {l l1 l2 : List D} {x y : Int} {kx ky : Nat} (ea : fAdd i (.int 1) = some i1) (e1 : ixD sp i = some (.int x)) (e2 : ixD sp i1 = some (.int y)) (k1 : ixN l.length x = some kx) (s1 : l.set kx (.int y) = l1) (k2 : ixN l1.length y = some ky) (s2 : l1.set ky (.int x) = l2) :
    wbody (wS r0 r1 r2 r3 r4 r5 r9 r10 r11 r12 r13 r14 r15 r16 st sp l (.imm i)) = .ok .nx (wS r0 r1 r2 r3 r4 r5 r9 r10 r11 r12 r13 r14 r15 r16 st sp l2 (.imm i)) := by
  have a : mSetIx 7 (mIxN 6 (mVar 8)) (mIxN 6 (mBin fAdd (mVar 8) (mC (.int 1)))) (wS r0 r1 r2 r3 r4 r5 r9 r10 r11 r12 r13 r14 r15 r16 st sp l (.imm i)) = .ok .nx (wS r0 r1 r2 r3 r4 r5 r9 r10 r11 r12 r13 r14 r15 r16 st sp l1 (.imm i)) := by
    subst s1
    simp [mSetIx, mIxN, mIxV, mVar, mBin, mC, cur, bnd, DL.ret, ea, e1, e2, lift, k1, S.put]
  unfold wbody
  rw [seq_nx a]
  subst s2
  simp [mSetIx, mIxN, mIxV, mVar, mBin, mC, cur, bnd, DL.ret, ea, e1, e2, lift, k2, S.put]
theorem w_for {n : Nat} {sp : List Int} (hs : ∀ x ∈ sp, 0 ≤ x ∧ x < n) : ∀ (as m : List Int) (r8 : Slot), (∀ a ∈ as, 0 ≤ a ∧ a + 1 < sp.length) → m.length = n → ∃ r8', fo (gNm 8) wbody (as.map .int) (wS r0 r1 r2 r3 r4 r5 r9 r10 r11 r12 r13 r14 r15 r16 st (.lst (sp.map .int)) (m.map .int) r8) = .ok .nx (wS r0 r1 r2 r3 r4 r5 r9 r10 r11 r12 r13 r14 r15 r16 st (.lst (sp.map .int)) ((as.foldl (swap2 sp) m).map .int) r8') ∧ (r8' = r8 ∨ ∃ d, r8' = .imm d)
  | [], m, r8, _, _ => ⟨r8, rfl, .inl rfl⟩
  | a :: as, m, r8, h, hm => by
    obtain ⟨h0, h1⟩ := h a List.mem_cons_self
    have gm : ∀ i : Int, 0 ≤ i → i < sp.length → 0 ≤ gI sp i ∧ gI sp i < n := fun i i0 i1 => by
      have hk : i.toNat < sp.length := by omega
      refine hs _ ?_
      unfold gI
      rw [List.getElem?_eq_getElem hk, Option.getD_some]
      exact List.getElem_mem hk
    obtain ⟨x0, x1⟩ := gm a h0 (by omega)
    obtain ⟨y0, y1⟩ := gm (a + 1) (by omega) h1
    have e1 : ixD (.lst (sp.map .int)) (.int a) = some (.int (gI sp a)) := atI_int h0 (by omega)
    have e2 : ixD (.lst (sp.map .int)) (.int (a + 1)) = some (.int (gI sp (a + 1))) := atI_int (by omega) h1
    have k1 : ixN (m.map D.int).length (gI sp a) = some (gI sp a).toNat := by
      unfold ixN
      rw [if_pos x0, if_pos (by simp; omega)]
    have k2 : ixN ((m.set (gI sp a).toNat (gI sp (a + 1))).map D.int).length (gI sp (a + 1)) = some (gI sp (a + 1)).toNat := by
      unfold ixN
      rw [if_pos y0, if_pos (by simp; omega)]
    have b := w_gen (r0 := r0) (r1 := r1) (r2 := r2) (r3 := r3) (r4 := r4) (r5 := r5) (r9 := r9) (r10 := r10) (r11 := r11) (r12 := r12) (r13 := r13) (r14 := r14) (r15 := r15) (r16 := r16) (st := st) (i := .int a) (i1 := .int (a + 1)) rfl e1 e2 k1 (set_map m _ _) k2 (set_map _ _ _)
    obtain ⟨r8', e, q⟩ := w_for hs as (swap2 sp m a) (.imm (.int a)) (fun x hx => h x (List.mem_cons_of_mem _ hx)) (by simp [swap2, hm])
    refine ⟨r8', ?_, ?_⟩
    · rw [List.map_cons]
      unfold fo
      simp only [gNm, S.puts, S.put, List.set_cons_succ, List.set_cons_zero]
      rw [b]
      exact e
    · rcases q with q | q
      · exact .inr ⟨_, q⟩
      · exact .inr q
end
theorem cut_take {α : Type} (xs : List α) (k : Nat) : cutL xs none (some (k : Int)) = xs.take k := by
  unfold cutL
  have e1 : HT.sIx xs.length 0 none = 0 := rfl
  have e2 : HT.sIx xs.length xs.length (some (k : Int)) = min k xs.length := HT.sIx_nat _ _ _
  rw [e1, e2, List.drop_zero, Nat.sub_zero]
  by_cases h : k ≤ xs.length
  · rw [Nat.min_eq_left h]
  · rw [Nat.min_eq_right (by omega), List.take_length, List.take_of_length_le (by omega)]
end LC

namespace K58
open PySem PySem.Spec L2 DL
noncomputable section
def top (i : Nat) : Stmt := PySem.Challenge.pw_everyname_k58_groups_made_conjugate.main.body.getD i (.Pass ⟨0, 0, 0, 0⟩)
/-! checked(p): slots p, one -/
abbrev m_checked : MS := LC.m_checked
abbrev f_checked : Fn := LC.f_checked
/-! sized(p, size): slots p, size -/
abbrev m_sized : MS := LC.m_sized
abbrev f_sized : Fn := LC.f_sized
/-! after(p, q): slots p, q, at -/
abbrev m_after : MS := LC.m_after
abbrev f_after : Fn := LC.f_after
/-! compose(p, q): slots p, q -/
abbrev m_compose : MS := LC.m_compose
abbrev f_compose : Fn := LC.f_compose
/-! back(p): slots p, places, at, one -/
abbrev m_back : MS := LC.m_back
abbrev f_back : Fn := LC.f_back
/-! inverse(p): slots p -/
abbrev m_inverse : MS := LC.m_inverse
abbrev f_inverse : Fn := LC.f_inverse
/-! _law_whole(_law_value): slots _law_value -/
abbrev m__law_whole : MS := LC.m__law_whole
abbrev f__law_whole : Fn := LC.f__law_whole
/-! orders(things): slots things, found, at, one, rest -/
abbrev m_orders : Fn → MS := LC.m_orders
abbrev f_orders : Nat → Fn := LC.f_orders
/-! conjugate(first, second): slots first, second, wanted, c, p -/
def m_conjugate : MS := (mSeq (mSet 2 (mDc (mIt (mVar 1)) (gNm 4) mYes (mVar 4) (mC (.bl true)) [4]))
  (mSeq (mFor (mIt (mCall (f_orders 8) (mCons (mUn (fun d => (rgD d).map .tup) (mUn fLen (mIxN 0 (mC (.int 0))))) mNil))) (gNm 3) (mIfS (mAndT (mBl (mBin fEq (mUn fLen (mLook 0)) (mUn fLen (mLook 1)))) (mTru (mUn fAll (mFz (mLc (mIt (mVar 0)) (gNm 4) mYes (mHas false (mCall f_after (mCons (mCall f_after (mCons (mVar 3) (mCons (mVar 4) mNil))) (mCons (mCall f_back (mCons (mVar 3) mNil)) mNil))) (mVar 2)) [4]))))) (mRet (mVar 3)) mPass))
  (mRet (mC .non))))
def f_conjugate : Fn := fnM 5 m_conjugate
/-! _law_slots(_law_n, _law_spare, _law_many): slots _law_n, _law_spare, _law_many, _law_found, _law_done, _law_each -/
abbrev m__law_slots : Fn → MS := LC.m__law_slots
abbrev f__law_slots : Nat → Fn := LC.f__law_slots
/-! _law_turns(_law_size): slots _law_size, _law_done, _law_each -/
abbrev m__law_turns : MS := LC.m__law_turns
abbrev f__law_turns : Fn := LC.f__law_turns
/-! _law_carried(_law_size, _law_group, _law_c): slots _law_size, _law_group, _law_c, _law_found, _law_p, _law_made, _law_at, _law_each -/
def m__law_carried : MS := (mSeq (mOwn 3 (mLst mNil))
  (mSeq (mFor (mIt (mVar 1)) (gNm 4) (mSeq (mOwn 5 (mBinF lRepL (mFz (mLst (mCons (mC (.int 0)) mNil))) (mVar 0)))
  (mSeq (mFor (mRng rng1 (mCons (mVar 0) mNil)) (gNm 6) (mSetIx 5 (mIxN 2 (mVar 6)) (mIxN 2 (mIxN 4 (mVar 6)))))
  (mExpr (mApp 3 (mUn fTuple (mLook 5)))))))
  (mRet (mUn fTuple (mFz (mLc (mIt (mCall f__law_turns (mCons (mVar 0) mNil))) (gNm 7) (mBl (mInV false (mVar 7) 3)) (mVar 7) [7]))))))
def f__law_carried : Fn := fnM 8 m__law_carried
/-! _law_draw(_law_pen_here, _law_many): slots _law_pen_here, _law_many, _law_digit, _law_spot, _law_size, _law_cell, _law_stir -/
abbrev m__law_draw : MS := LC.m__law_draw
abbrev f__law_draw : Fn := LC.f__law_draw
/-! _law_pick(_law_pen_here, _law_options): slots _law_pen_here, _law_options -/
abbrev m__law_pick : MS := LC.m__law_pick
abbrev f__law_pick : Fn := LC.f__law_pick
/-! _law_shuffled(_law_pen_here, _law_items): slots _law_pen_here, _law_items, _law_rest, _law_found -/
abbrev m__law_shuffled : MS := LC.m__law_shuffled
abbrev f__law_shuffled : Fn := LC.f__law_shuffled
/-! listed(rows): slots rows, size, p -/
abbrev m_listed : MS := LC.m_listed
abbrev f_listed : Fn := LC.f_listed
/-! generated(size, rows): slots size, rows, row, start, found, waiting, p, made -/
abbrev m_generated : MS := LC.m_generated
abbrev f_generated : Fn := LC.f_generated
/-! _law_pen(_law_script): slots _law_script -/
abbrev m__law_pen : MS := LC.m__law_pen
abbrev f__law_pen : Fn := LC.f__law_pen
/-! law(_law_script): slots _law_script, _law_pen_here, _law_size, _law_groups, _law_k, _law_rows, _law_spots, _law_made, _law_at, _law_each, _law_turned, _law_two, _law_due, _law_told, _law_j, _law_c, _law_p -/
def m_law : MS := (mSeq (mSet 1 (mCall f__law_pen (mCons (mVar 0) mNil)))
  (mSeq (mSet 2 (mCall f__law_draw (mCons (mVar 1) (mCons (mC (.int 5)) mNil))))
  (mSeq (mOwn 3 (mLst mNil))
  (mSeq (mFor (mRng rng1 (mCons (mC (.int 2)) mNil)) (gNm 4) (mSeq (mOwn 5 (mLc (mRng rng1 (mCons (mCall f__law_draw (mCons (mVar 1) (mCons (mC (.int 3)) mNil))) mNil)) (gNm 14) mYes (mUn fTuple (mCall f__law_shuffled (mCons (mVar 1) (mCons (mFz (mUnF rgD (mVar 2))) mNil)))) [14]))
  (mSeq (mIfS (mBl (mBin fEq (mCall f__law_draw (mCons (mVar 1) (mCons (mC (.int 2)) mNil))) (mC (.int 0)))) (mSeq (mSet 6 (mSl (mCall f__law_shuffled (mCons (mVar 1) (mCons (mFz (mUnF rgD (mVar 2))) mNil))) mNoP (mPart (mBin fMul (mC (.int 2)) (mCall f__law_draw (mCons (mVar 1) (mCons (mC (.int 3)) mNil)))))))
  (mSeq (mOwn 7 (mUnF rgD (mVar 2)))
  (mSeq (mFor (mRng rng3 (mCons (mC (.int 0)) (mCons (mBin iSub (mUn fLen (mLook 6)) (mC (.int 1))) (mCons (mC (.int 2)) mNil)))) (gNm 8) (mSeq (mSetIx 7 (mIxN 6 (mVar 8)) (mIxN 6 (mBin fAdd (mVar 8) (mC (.int 1)))))
  (mSetIx 7 (mIxN 6 (mBin fAdd (mVar 8) (mC (.int 1)))) (mIxN 6 (mVar 8)))))
  (mOwn 5 (mBinF lAddL (mSlN 5 mNoP (mPart (mBin iDiv (mCall f__law_draw (mCons (mVar 1) (mCons (mC (.int 3)) mNil))) (mC (.int 2))))) (mFz (mLst (mCons (mUn fTuple (mLook 7)) mNil)))))))) mPass)
  (mExpr (mApp 3 (mCall f_generated (mCons (mVar 2) (mCons (mUn fTuple (mLook 5)) mNil))))))))
  (mSeq (mSet 9 (mIxN 3 (mC (.int 0))))
  (mSeq (mSet 10 (mUn fTuple (mCall f__law_shuffled (mCons (mVar 1) (mCons (mFz (mUnF rgD (mVar 2))) mNil)))))
  (mSeq (mSet 11 (mCall f__law_pick (mCons (mVar 1) (mCons (mFz (mLst (mCons (mIxN 3 (mC (.int 1))) (mCons (mCall f__law_carried (mCons (mVar 2) (mCons (mVar 9) (mCons (mVar 10) mNil)))) (mCons (mIxN 3 (mC (.int 1))) mNil))))) mNil))))
  (mSeq (mOwn 12 (mLc (mIt (mCall f__law_turns (mCons (mVar 2) mNil))) (gNm 15) (mBl (mBin fEq (mCall f__law_carried (mCons (mVar 2) (mCons (mVar 9) (mCons (mVar 15) mNil)))) (mVar 11))) (mVar 15) [15]))
  (mSeq (mSet 13 (mCall f_conjugate (mCons (mVar 9) (mCons (mVar 11) mNil))))
  (mSeq (mIfS (mOrT (mBl (mNeV 13 (mIf (mBl (mNeV 12 (mFz (mLst mNil)))) (mIxN 12 (mC (.int 0))) (mC .non)))) (mBl (mBin fNe (mBin fIsN (mVar 13) (mC .non)) (mBin fIsN (mCall f_conjugate (mCons (mVar 11) (mCons (mVar 9) mNil))) (mC .non))))) (mRet (mC (.bl false))) mPass)
  (mSeq (mIfS (mBl (mBin fIsN (mVar 13) (mC .non))) (mRet (mC (.bl true))) mPass)
  (mSeq (mIfS (mOrT (mNotT (mTru (mUn (fIsi "tuple") (mLook 13)))) (mNotT (mTru (mUn fAll (mFz (mLc (mIt (mVar 13)) (gNm 8) mYes (mCall f__law_whole (mCons (mVar 8) mNil)) [8])))))) (mRet (mC (.bl false))) mPass)
  (mRet (mUn fAll (mFz (mLc (mIt (mVar 9)) (gNm 16) mYes (mInV false (mCall f_compose (mCons (mCall f_compose (mCons (mVar 13) (mCons (mVar 16) mNil))) (mCons (mCall f_inverse (mCons (mVar 13) mNil)) mNil))) 11) [16]))))))))))))))))
def f_law : Fn := fnM 17 m_law
section
variable {P : Program} {w : World} {K : PySem.W.Frag} {mg : Str → Option Value} {base : Heap}
theorem sc_checked : FnScope ["p", "one"] ["p"] (defScope (top 4)) := ⟨rfl, rfl, rfl, by decide +kernel, rfl, by decide +kernel, by decide +kernel⟩
theorem ok_checked (F : FnW K "checked" (top 4)) (hm : mg "checked" = some (.ref (He.ga K "checked"))) (g_int : mg "int" = none) (g_sorted : mg "sorted" = none) (g_len : mg "len" = none) (g_list : mg "list" = none) (g_range : mg "range" = none) (g_isinstance : mg "isinstance" = none) (g_bool : mg "bool" = none) (g_all : mg "all" = none) (g_tuple : mg "tuple" = none) (n_BadRenumbering : mg "BadRenumbering" = some (.ref (He.ga K "BadRenumbering"))) (x_BadRenumbering : XF P K mg "BadRenumbering" "numbers") : Kn P w K mg base "checked" 1 ["p"] f_checked := by
  have sc := sc_checked
  refine kn_ok F hm sc (fun _ _ _ _ _ _ us hl => match us, hl with | [_], _ => rfl) (k := 0) fun cdv A outer s H E hr tk hp hu hu1 => ?_
  exact (jss_cons (js_if (JW.jt (jw_or (jt_not (jt_truth (je_isi (T := "tuple") (by decide) rfl g_isinstance rfl g_tuple (by kernel_rfl) (jb_var 0)))) (jw_or1 (jt_not (jt_truth (je_b1 (cr_all rfl) k_all rfl g_all (by kernel_rfl) (jb_new (jf_lc (own := [("one", 1)]) rfl sc.nd (ji_seq (je_var 0)) (blk_ok (by kernel_rfl)) (fun s2 H2 C2 cl2 fp2 => (jg_name sc.nd rfl (by first | exact Or.inl rfl | exact Or.inr rfl))) (fun s2 H2 C2 cl2 fp2 => jts_nil) (fun s2 H2 C2 cl2 fp2 => (je_and (je_isi (T := "int") (by decide) rfl g_isinstance rfl g_int (by kernel_rfl) (jb_var 1)) (je_one (je_not (je_isi (T := "bool") (by decide) rfl g_isinstance rfl g_bool (by kernel_rfl) (jb_var 1)))))))))))))) (jss_one (js_raise rfl x_BadRenumbering.1 n_BadRenumbering hr tk (je_var 0) rfl)) jss_nil)
  (jss_cons (js_if (jt_cmp (op_neX hu) k_ne (je_fz (jf_b1 cr_sortedI k_sortI rfl g_sorted (by kernel_rfl) (jb_new (jf_lc (own := [("one", 1)]) rfl sc.nd (ji_seq (je_var 0)) (blk_ok (by kernel_rfl)) (fun s2 H2 C2 cl2 fp2 => (jg_name sc.nd rfl (by first | exact Or.inl rfl | exact Or.inr rfl))) (fun s2 H2 C2 cl2 fp2 => jts_nil) (fun s2 H2 C2 cl2 fp2 => (je_t1 call_int1 k_int rfl g_int (by kernel_rfl) (jb_var 1))))))) (je_fz (jf_listRg rfl rfl g_list rfl g_range (je_b1 call_len k_len rfl g_len (by kernel_rfl) (jb_var 0)))) (nomark _)) (jss_one (js_raise rfl x_BadRenumbering.1 n_BadRenumbering hr tk (je_var 0) rfl)) jss_nil)
  (jss_one (js_ret (je_var 0)))))
theorem sc_sized : FnScope ["p", "size"] ["p", "size"] (defScope (top 5)) := ⟨rfl, rfl, rfl, by decide +kernel, rfl, by decide +kernel, by decide +kernel⟩
theorem ok_sized (F : FnW K "sized" (top 5)) (hm : mg "sized" = some (.ref (He.ga K "sized"))) (c_checked : Kn P w K mg base "checked" 1 ["p"] f_checked) (g_len : mg "len" = none) (n_BadRenumbering : mg "BadRenumbering" = some (.ref (He.ga K "BadRenumbering"))) (x_BadRenumbering : XF P K mg "BadRenumbering" "numbers") : Kn P w K mg base "sized" 2 ["p", "size"] f_sized := by
  have sc := sc_sized
  refine kn_ok F hm sc (fun _ _ _ _ _ _ us hl => match us, hl with | [_, _], _ => rfl) (k := 1) fun cdv A outer s H E hr tk hp hu hu1 => ?_
  exact (jss_cons (js_if (jt_cmp (op_neX hu) k_ne (je_b1 call_len k_len rfl g_len (by kernel_rfl) (jb_of (je_callK c_checked (hr.mono (by omega)) tk rfl (ja_cons (je_var 0) ja_nil)))) (je_var 1) (nomark _)) (jss_one (js_raise rfl x_BadRenumbering.1 n_BadRenumbering hr tk (je_var 0) rfl)) jss_nil)
  (jss_one (js_ret (je_var 0))))
theorem sc_after : FnScope ["p", "q", "at"] ["p", "q"] (defScope (top 6)) := ⟨rfl, rfl, rfl, by decide +kernel, rfl, by decide +kernel, by decide +kernel⟩
theorem ok_after (F : FnW K "after" (top 6)) (hm : mg "after" = some (.ref (He.ga K "after"))) (g_tuple : mg "tuple" = none) : Kn P w K mg base "after" 1 ["p", "q"] f_after := by
  have sc := sc_after
  refine kn_ok F hm sc (fun _ _ _ _ _ _ us hl => match us, hl with | [_, _], _ => rfl) (k := 0) fun cdv A outer s H E hr tk hp hu hu1 => ?_
  exact (jss_one (js_ret (je_t1 call_tuple_of k_tuple rfl g_tuple (by kernel_rfl) (jb_new (jf_lc (own := [("at", 2)]) rfl sc.nd (ji_seq (je_var 1)) (blk_ok (by kernel_rfl)) (fun s2 H2 C2 cl2 fp2 => (jg_name sc.nd rfl (by first | exact Or.inl rfl | exact Or.inr rfl))) (fun s2 H2 C2 cl2 fp2 => jts_nil) (fun s2 H2 C2 cl2 fp2 => (je_ixV 0 (je_var 2))))))))
theorem sc_compose : FnScope ["p", "q"] ["p", "q"] (defScope (top 8)) := ⟨rfl, rfl, rfl, by decide +kernel, rfl, by decide +kernel, by decide +kernel⟩
theorem ok_compose (F : FnW K "compose" (top 8)) (hm : mg "compose" = some (.ref (He.ga K "compose"))) (c_sized : Kn P w K mg base "sized" 2 ["p", "size"] f_sized) (c_after : Kn P w K mg base "after" 1 ["p", "q"] f_after) (c_checked : Kn P w K mg base "checked" 1 ["p"] f_checked) (g_len : mg "len" = none) : Kn P w K mg base "compose" 3 ["p", "q"] f_compose := by
  have sc := sc_compose
  refine kn_ok F hm sc (fun _ _ _ _ _ _ us hl => match us, hl with | [_, _], _ => rfl) (k := 2) fun cdv A outer s H E hr tk hp hu hu1 => ?_
  exact (jss_cons (js_expr (je_callK c_checked (hr.mono (by omega)) tk rfl (ja_cons (je_var 0) ja_nil)))
  (jss_one (js_ret (je_callK c_after (hr.mono (by omega)) tk rfl (ja_cons (je_var 0) (ja_cons (je_callK c_sized (hr.mono (by omega)) tk rfl (ja_cons (je_var 1) (ja_cons (je_b1 call_len k_len rfl g_len (by kernel_rfl) (jb_var 0)) ja_nil))) ja_nil))))))
theorem sc_back : FnScope ["p", "places", "at", "one"] ["p"] (defScope (top 7)) := ⟨rfl, rfl, rfl, by decide +kernel, rfl, by decide +kernel, by decide +kernel⟩
theorem ok_back (F : FnW K "back" (top 7)) (hm : mg "back" = some (.ref (He.ga K "back"))) (g_tuple : mg "tuple" = none) (g_enumerate : mg "enumerate" = none) (g_len : mg "len" = none) : Kn P w K mg base "back" 1 ["p"] f_back := by
  have sc := sc_back
  refine kn_ok F hm sc (fun _ _ _ _ _ _ us hl => match us, hl with | [_], _ => rfl) (k := 0) fun cdv A outer s H E hr tk hp hu hu1 => ?_
  exact (jss_cons (js_own sc.nd (i := 1) rfl (by first | exact Or.inl rfl | exact Or.inr rfl) (jf_bin op_rep k_lrepF (je_fz (jf_lst (ja_cons je_int ja_nil))) (je_b1 call_len k_len rfl g_len (by kernel_rfl) (jb_var 0))))
  (jss_cons (js_for hp rfl (ji_enum rfl g_enumerate (je_var 0)) (jg_tup rfl (jgs_cons (jg_name sc.nd rfl (by first | exact Or.inl rfl | exact Or.inr rfl)) (jgs_cons (jg_name sc.nd rfl (by first | exact Or.inl rfl | exact Or.inr rfl)) jgs_nil))) (jss_one (js_setIx (je_var 2) (je_var 3))))
  (jss_one (js_ret (je_t1 call_tuple_of k_tuple rfl g_tuple (by kernel_rfl) (jb_var 1))))))
theorem sc_inverse : FnScope ["p"] ["p"] (defScope (top 9)) := ⟨rfl, rfl, rfl, by decide +kernel, rfl, by decide +kernel, by decide +kernel⟩
theorem ok_inverse (F : FnW K "inverse" (top 9)) (hm : mg "inverse" = some (.ref (He.ga K "inverse"))) (c_checked : Kn P w K mg base "checked" 1 ["p"] f_checked) (c_back : Kn P w K mg base "back" 1 ["p"] f_back) : Kn P w K mg base "inverse" 2 ["p"] f_inverse := by
  have sc := sc_inverse
  refine kn_ok F hm sc (fun _ _ _ _ _ _ us hl => match us, hl with | [_], _ => rfl) (k := 1) fun cdv A outer s H E hr tk hp hu hu1 => ?_
  exact (jss_one (js_ret (je_callK c_back (hr.mono (by omega)) tk rfl (ja_cons (je_callK c_checked (hr.mono (by omega)) tk rfl (ja_cons (je_var 0) ja_nil)) ja_nil))))
theorem sc__law_whole : FnScope ["_law_value"] ["_law_value"] (defScope (top 21)) := ⟨rfl, rfl, rfl, by decide +kernel, rfl, by decide +kernel, by decide +kernel⟩
theorem ok__law_whole (F : FnW K "_law_whole" (top 21)) (hm : mg "_law_whole" = some (.ref (He.ga K "_law_whole"))) (g_isinstance : mg "isinstance" = none) (g_bool : mg "bool" = none) (g_int : mg "int" = none) : Kn P w K mg base "_law_whole" 1 ["_law_value"] f__law_whole := by
  have sc := sc__law_whole
  refine kn_ok F hm sc (fun _ _ _ _ _ _ us hl => match us, hl with | [_], _ => rfl) (k := 0) fun cdv A outer s H E hr tk hp hu hu1 => ?_
  exact (jss_one (js_ret (je_and (je_isi (T := "int") (by decide) rfl g_isinstance rfl g_int (by kernel_rfl) (jb_var 0)) (je_one (je_not (je_isi (T := "bool") (by decide) rfl g_isinstance rfl g_bool (by kernel_rfl) (jb_var 0)))))))
theorem sc_orders : FnScope ["things", "found", "at", "one", "rest"] ["things"] (defScope (top 10)) := ⟨rfl, rfl, rfl, by decide +kernel, rfl, by decide +kernel, by decide +kernel⟩
theorem okr_orders (F : FnW K "orders" (top 10)) (hm : mg "orders" = some (.ref (He.ga K "orders"))) (g_enumerate : mg "enumerate" = none) : ∀ n, Kn P w K mg base "orders" (0 + n) ["things"] (f_orders n)
  | 0 => kn_stuck F hm (fun _ _ _ _ _ _ us hl => match us, hl with | [_], _ => rfl)
  | n + 1 => by
    have ih := okr_orders F hm g_enumerate n
    have sc := sc_orders
    refine kn_ok F hm sc (fun _ _ _ _ _ _ us hl => match us, hl with | [_], _ => rfl) (k := 0 + n) (m := m_orders (f_orders n)) fun cdv A outer s H E hr tk hp hu hu1 => ?_
    exact (jss_cons (js_if (jt_not (jt_truthV 0)) (jss_one (js_ret (je_fz (jf_lst (ja_cons (je_tup ja_nil) ja_nil))))) jss_nil)
  (jss_cons (js_own sc.nd (i := 1) rfl (by first | exact Or.inl rfl | exact Or.inr rfl) (jf_lst ja_nil))
  (jss_cons (js_for hp rfl (ji_enum rfl g_enumerate (je_var 0)) (jg_tup rfl (jgs_cons (jg_name sc.nd rfl (by first | exact Or.inl rfl | exact Or.inr rfl)) (jgs_cons (jg_name sc.nd rfl (by first | exact Or.inl rfl | exact Or.inr rfl)) jgs_nil))) (jss_one (js_for hp rfl (ji_seq (je_callK ih (hr.mono (by omega)) tk rfl (ja_cons (je_bin op_addX k_addX (je_slN 0 jo_none (jo_some (je_var 2))) (je_slN 0 (jo_some (je_bin op_addX k_addX (je_var 2) je_int)) jo_none)) ja_nil))) (jg_name sc.nd rfl (by first | exact Or.inl rfl | exact Or.inr rfl)) (jss_one (js_expr (je_app (je_bin op_addX k_addX (je_tup (ja_cons (je_var 3) ja_nil)) (je_var 4))))))))
  (jss_one (js_ret (je_var 1))))))
theorem ok_orders (F : FnW K "orders" (top 10)) (hm : mg "orders" = some (.ref (He.ga K "orders"))) (g_enumerate : mg "enumerate" = none) : Kn P w K mg base "orders" 8 ["things"] (f_orders 8) := okr_orders F hm g_enumerate 8
theorem sc_conjugate : FnScope ["first", "second", "wanted", "c", "p"] ["first", "second"] (defScope (top 13)) := ⟨rfl, rfl, rfl, by decide +kernel, rfl, by decide +kernel, by decide +kernel⟩
theorem ok_conjugate (F : FnW K "conjugate" (top 13)) (hm : mg "conjugate" = some (.ref (He.ga K "conjugate"))) (c_orders : Kn P w K mg base "orders" 8 ["things"] (f_orders 8)) (c_after : Kn P w K mg base "after" 1 ["p", "q"] f_after) (c_back : Kn P w K mg base "back" 1 ["p"] f_back) (g_len : mg "len" = none) (g_tuple : mg "tuple" = none) (g_range : mg "range" = none) (g_all : mg "all" = none) : Kn P w K mg base "conjugate" 9 ["first", "second"] f_conjugate := by
  have sc := sc_conjugate
  refine kn_ok F hm sc (fun _ _ _ _ _ _ us hl => match us, hl with | [_, _], _ => rfl) (k := 8) fun cdv A outer s H E hr tk hp hu hu1 => ?_
  exact (jss_cons (js_set sc.nd (i := 2) rfl (by first | exact Or.inl rfl | exact Or.inr rfl) (je_dc (own := [("p", 4)]) (Nat.lt_of_succ_lt hu1) rfl sc.nd (ji_seq (je_var 1)) (blk_ok (by kernel_rfl)) (fun s2 H2 C2 cl2 fp2 => (jg_name sc.nd rfl (by first | exact Or.inl rfl | exact Or.inr rfl))) (fun s2 H2 C2 cl2 fp2 => jts_nil) (fun s2 H2 C2 cl2 fp2 => (je_var 4)) (fun s2 H2 C2 cl2 fp2 => je_bl)))
  (jss_cons (js_for hp rfl (ji_seq (je_callK c_orders (hr.mono (by omega)) tk rfl (ja_cons (je_tupRg rfl rfl g_tuple rfl g_range (je_b1 call_len k_len rfl g_len (by kernel_rfl) (jb_of (je_ixV 0 je_int)))) ja_nil))) (jg_name sc.nd rfl (by first | exact Or.inl rfl | exact Or.inr rfl)) (jss_one (js_if (JW.jt (jw_and (jt_cmp (op_eqX hu) k_eq (je_b1 call_len k_len rfl g_len (by kernel_rfl) (jb_var 0)) (je_b1 call_len k_len rfl g_len (by kernel_rfl) (jb_var 1)) (nomark _)) (jw_and1 (jt_truth (je_b1 (cr_all rfl) k_all rfl g_all (by kernel_rfl) (jb_new (jf_lc (own := [("p", 4)]) rfl sc.nd (ji_seq (je_var 0)) (blk_ok (by kernel_rfl)) (fun s2 H2 C2 cl2 fp2 => (jg_name sc.nd rfl (by first | exact Or.inl rfl | exact Or.inr rfl))) (fun s2 H2 C2 cl2 fp2 => jts_nil) (fun s2 H2 C2 cl2 fp2 => (je_hasI hu1 (je_callK c_after (hr.mono (by omega)) tkF rfl (ja_cons (je_callK c_after (hr.mono (by omega)) tkF rfl (ja_cons (je_var 3) (ja_cons (je_var 4) ja_nil))) (ja_cons (je_callK c_back (hr.mono (by omega)) tkF rfl (ja_cons (je_var 3) ja_nil)) ja_nil))) (je_var 2)))))))))) (jss_one (js_ret (je_var 3))) jss_nil)))
  (jss_one (js_ret je_non))))
theorem sc__law_slots : FnScope ["_law_n", "_law_spare", "_law_many", "_law_found", "_law_done", "_law_each"] ["_law_n", "_law_spare", "_law_many"] (defScope (top 19)) := ⟨rfl, rfl, rfl, by decide +kernel, rfl, by decide +kernel, by decide +kernel⟩
theorem okr__law_slots (F : FnW K "_law_slots" (top 19)) (hm : mg "_law_slots" = some (.ref (He.ga K "_law_slots"))) (g_range : mg "range" = none) : ∀ n, Kn P w K mg base "_law_slots" (0 + n) ["_law_n", "_law_spare", "_law_many"] (f__law_slots n)
  | 0 => kn_stuck F hm (fun _ _ _ _ _ _ us hl => match us, hl with | [_, _, _], _ => rfl)
  | n + 1 => by
    have ih := okr__law_slots F hm g_range n
    have sc := sc__law_slots
    refine kn_ok F hm sc (fun _ _ _ _ _ _ us hl => match us, hl with | [_, _, _], _ => rfl) (k := 0 + n) (m := m__law_slots (f__law_slots n)) fun cdv A outer s H E hr tk hp hu hu1 => ?_
    exact (jss_cons (js_if (jt_cmp (op_eqX hu) k_eq (je_var 2) je_int (nomark _)) (jss_one (js_ret (je_fz (jf_lst (ja_cons (je_tup ja_nil) ja_nil))))) jss_nil)
  (jss_cons (js_own sc.nd (i := 3) rfl (by first | exact Or.inl rfl | exact Or.inr rfl) (jf_lst ja_nil))
  (jss_cons (js_for hp rfl (ji_seq (je_callK ih (hr.mono (by omega)) tk rfl (ja_cons (je_var 0) (ja_cons (je_var 1) (ja_cons (je_bin op_sub k_sub (je_var 2) je_int) ja_nil))))) (jg_name sc.nd rfl (by first | exact Or.inl rfl | exact Or.inr rfl)) (jss_one (js_for hp rfl (ji_range2 rfl g_range (ja_cons je_int (ja_cons (je_bin op_addX k_addX (je_var 0) je_int) ja_nil))) (jg_name sc.nd rfl (by first | exact Or.inl rfl | exact Or.inr rfl)) (jss_one (js_if (JW.jt (jw_and (jt_ninV 4 hu (je_var 5)) (jw_and1 (jt_ninV 1 hu (je_var 5))))) (jss_one (js_expr (je_app (je_bin op_addX k_addX (je_var 4) (je_tup (ja_cons (je_var 5) ja_nil)))))) jss_nil)))))
  (jss_one (js_ret (je_var 3))))))
theorem ok__law_slots (F : FnW K "_law_slots" (top 19)) (hm : mg "_law_slots" = some (.ref (He.ga K "_law_slots"))) (g_range : mg "range" = none) : Kn P w K mg base "_law_slots" 8 ["_law_n", "_law_spare", "_law_many"] (f__law_slots 8) := okr__law_slots F hm g_range 8
theorem sc__law_turns : FnScope ["_law_size", "_law_done", "_law_each"] ["_law_size"] (defScope (top 20)) := ⟨rfl, rfl, rfl, by decide +kernel, rfl, by decide +kernel, by decide +kernel⟩
theorem ok__law_turns (F : FnW K "_law_turns" (top 20)) (hm : mg "_law_turns" = some (.ref (He.ga K "_law_turns"))) (c__law_slots : Kn P w K mg base "_law_slots" 8 ["_law_n", "_law_spare", "_law_many"] (f__law_slots 8)) (g_tuple : mg "tuple" = none) : Kn P w K mg base "_law_turns" 9 ["_law_size"] f__law_turns := by
  have sc := sc__law_turns
  refine kn_ok F hm sc (fun _ _ _ _ _ _ us hl => match us, hl with | [_], _ => rfl) (k := 8) fun cdv A outer s H E hr tk hp hu hu1 => ?_
  exact (jss_one (js_ret (je_fz (jf_lc (own := [("_law_done", 1)]) rfl sc.nd (ji_seq (je_callK c__law_slots (hr.mono (by omega)) tk rfl (ja_cons (je_var 0) (ja_cons (je_tup ja_nil) (ja_cons (je_var 0) ja_nil))))) (blk_ok (by kernel_rfl)) (fun s2 H2 C2 cl2 fp2 => (jg_name sc.nd rfl (by first | exact Or.inl rfl | exact Or.inr rfl))) (fun s2 H2 C2 cl2 fp2 => jts_nil) (fun s2 H2 C2 cl2 fp2 => (je_t1 call_tuple_of k_tuple rfl g_tuple (by kernel_rfl) (jb_new (jf_lc (own := [("_law_each", 2)]) rfl sc.nd (ji_seq (je_var 1)) (blk_ok (by kernel_rfl)) (fun s2 H2 C2 cl2 fp2 => (jg_name sc.nd rfl (by first | exact Or.inl rfl | exact Or.inr rfl))) (fun s2 H2 C2 cl2 fp2 => jts_nil) (fun s2 H2 C2 cl2 fp2 => (je_bin op_sub k_sub (je_var 2) je_int))))))))))
theorem sc__law_carried : FnScope ["_law_size", "_law_group", "_law_c", "_law_found", "_law_p", "_law_made", "_law_at", "_law_each"] ["_law_size", "_law_group", "_law_c"] (defScope (top 22)) := ⟨rfl, rfl, rfl, by decide +kernel, rfl, by decide +kernel, by decide +kernel⟩
theorem ok__law_carried (F : FnW K "_law_carried" (top 22)) (hm : mg "_law_carried" = some (.ref (He.ga K "_law_carried"))) (c__law_turns : Kn P w K mg base "_law_turns" 9 ["_law_size"] f__law_turns) (g_tuple : mg "tuple" = none) (g_range : mg "range" = none) : Kn P w K mg base "_law_carried" 10 ["_law_size", "_law_group", "_law_c"] f__law_carried := by
  have sc := sc__law_carried
  refine kn_ok F hm sc (fun _ _ _ _ _ _ us hl => match us, hl with | [_, _, _], _ => rfl) (k := 9) fun cdv A outer s H E hr tk hp hu hu1 => ?_
  exact (jss_cons (js_own sc.nd (i := 3) rfl (by first | exact Or.inl rfl | exact Or.inr rfl) (jf_lst ja_nil))
  (jss_cons (js_for hp rfl (ji_seq (je_var 1)) (jg_name sc.nd rfl (by first | exact Or.inl rfl | exact Or.inr rfl)) (jss_cons (js_own sc.nd (i := 5) rfl (by first | exact Or.inl rfl | exact Or.inr rfl) (jf_bin op_rep k_lrepF (je_fz (jf_lst (ja_cons je_int ja_nil))) (je_var 0)))
  (jss_cons (js_for hp rfl (ji_range1 rfl g_range (ja_cons (je_var 0) ja_nil)) (jg_name sc.nd rfl (by first | exact Or.inl rfl | exact Or.inr rfl)) (jss_one (js_setIx (je_ixV 2 (je_ixV 4 (je_var 6))) (je_ixV 2 (je_var 6)))))
  (jss_one (js_expr (je_app (je_t1 call_tuple_of k_tuple rfl g_tuple (by kernel_rfl) (jb_var 5))))))))
  (jss_one (js_ret (je_t1 call_tuple_of k_tuple rfl g_tuple (by kernel_rfl) (jb_new (jf_lc (own := [("_law_each", 7)]) rfl sc.nd (ji_seq (je_callK c__law_turns (hr.mono (by omega)) tk rfl (ja_cons (je_var 0) ja_nil))) (blk_ok (by kernel_rfl)) (fun s2 H2 C2 cl2 fp2 => (jg_name sc.nd rfl (by first | exact Or.inl rfl | exact Or.inr rfl))) (fun s2 H2 C2 cl2 fp2 => (jts_one (jt_inV 3 hu (je_var 7)))) (fun s2 H2 C2 cl2 fp2 => (je_var 7)))))))))
theorem sc__law_draw : FnScope ["_law_pen_here", "_law_many", "_law_digit", "_law_spot", "_law_size", "_law_cell", "_law_stir"] ["_law_pen_here", "_law_many"] (defScope (top 16)) := ⟨rfl, rfl, rfl, by decide +kernel, rfl, by decide +kernel, by decide +kernel⟩
theorem ok__law_draw (F : FnW K "_law_draw" (top 16)) (hm : mg "_law_draw" = some (.ref (He.ga K "_law_draw"))) (g_int : mg "int" = none) (g_abs : mg "abs" = none) (g_len : mg "len" = none) : Kn P w K mg base "_law_draw" 1 ["_law_pen_here", "_law_many"] f__law_draw := by
  have sc := sc__law_draw
  refine kn_ok F hm sc (fun _ _ _ _ _ _ us hl => match us, hl with | [_, _], _ => rfl) (k := 0) fun cdv A outer s H E hr tk hp hu hu1 => ?_
  exact (jss_cons (js_if (jt_cmp op_gt k_gt (je_get (k := .inr "rest") hu1 (je_var 0) pe_str) je_int (nomark _)) (jss_cons (js_set sc.nd (i := 2) rfl (by first | exact Or.inl rfl | exact Or.inr rfl) (je_bin op_mod k_mod (je_t1 call_int1 k_int rfl g_int (by kernel_rfl) (jb_of (je_get (k := .inr "rest") hu1 (je_var 0) pe_str))) (je_var 1)))
  (jss_cons (js_put (k := .inr "rest") hu1 (je_var 0) pe_str (je_bin op_fdivW k_div (je_get (k := .inr "rest") hu1 (je_var 0) pe_str) (je_var 1)))
  (jss_one (js_ret (je_var 2))))) jss_nil)
  (jss_cons (js_par rfl sc.nd (i := 3) (j := 4) rfl rfl (by decide) rfl rfl (ja_cons (je_get (k := .inr "begun") hu1 (je_var 0) pe_str) (ja_cons (je_b1 call_len k_len rfl g_len (by kernel_rfl) (jb_of (je_get (k := .inr "cells") hu1 (je_var 0) pe_str))) ja_nil)) rfl)
  (jss_cons (js_put (k := .inr "begun") hu1 (je_var 0) pe_str (je_bin op_addX k_addX (je_var 3) je_int))
  (jss_cons (js_set sc.nd (i := 5) rfl (by first | exact Or.inl rfl | exact Or.inr rfl) (je_bin op_addX k_addX (je_bin op_mulX k_mulX je_int (je_var 3)) je_int))
  (jss_cons (js_if (jt_cmp op_gt k_gt (je_var 4) je_int (nomark _)) (jss_one (js_set sc.nd (i := 5) rfl (by first | exact Or.inl rfl | exact Or.inr rfl) (je_ix (je_get (k := .inr "cells") hu1 (je_var 0) pe_str) (je_bin op_mod k_mod (je_t1 call_int1 k_int rfl g_int (by kernel_rfl) (jb_var 3)) (je_var 4))))) jss_nil)
  (jss_cons (js_if (JW.jt (jw_and (jt_cmp op_lt k_lt (je_var 3) (je_var 4) (nomark _)) (jw_and1 (jt_cmp op_ge k_ge (je_b1 call_abs k_abs rfl g_abs (by kernel_rfl) (jb_var 5)) (je_bin op_pow k_pow je_int je_int) (nomark _))))) (jss_cons (js_put (k := .inr "rest") hu1 (je_var 0) pe_str (je_bin op_fdivW k_div (je_bin op_sub k_sub (je_b1 call_abs k_abs rfl g_abs (by kernel_rfl) (jb_var 5)) (je_bin op_pow k_pow je_int je_int)) (je_var 1)))
  (jss_one (js_ret (je_bin op_mod k_mod (je_bin op_sub k_sub (je_b1 call_abs k_abs rfl g_abs (by kernel_rfl) (jb_var 5)) (je_bin op_pow k_pow je_int je_int)) (je_var 1))))) jss_nil)
  (jss_cons (js_set sc.nd (i := 6) rfl (by first | exact Or.inl rfl | exact Or.inr rfl) (je_bin op_mod k_mod (je_t1 call_int1 k_int rfl g_int (by kernel_rfl) (jb_of (je_bin op_addX k_addX (je_bin op_addX k_addX (je_bin op_mulX k_mulX (je_bin op_mod k_mod (je_t1 call_int1 k_int rfl g_int (by kernel_rfl) (jb_var 5)) je_int) je_int) (je_bin op_mulX k_mulX (je_bin op_mulX k_mulX je_int (je_var 3)) (je_var 3))) je_int))) je_int))
  (jss_cons (js_set sc.nd (i := 6) rfl (by first | exact Or.inl rfl | exact Or.inr rfl) (je_bin op_mod k_mod (je_t1 call_int1 k_int rfl g_int (by kernel_rfl) (jb_of (je_bin op_addX k_addX (je_bin op_addX k_addX (je_bin op_addX k_addX (je_bin op_mulX k_mulX (je_var 6) (je_var 6)) (je_bin op_mulX k_mulX je_int (je_var 6))) (je_bin op_mulX k_mulX je_int (je_var 3))) je_int))) je_int))
  (jss_cons (js_set sc.nd (i := 6) rfl (by first | exact Or.inl rfl | exact Or.inr rfl) (je_bin op_fdivW k_div (je_bin op_mod k_mod (je_t1 call_int1 k_int rfl g_int (by kernel_rfl) (jb_of (je_bin op_mulX k_mulX (je_var 6) (je_bin op_addX k_addX (je_var 6) je_int)))) je_int) je_int))
  (jss_one (js_ret (je_bin op_mod k_mod (je_t1 call_int1 k_int rfl g_int (by kernel_rfl) (jb_var 6)) (je_var 1)))))))))))))
theorem sc__law_pick : FnScope ["_law_pen_here", "_law_options"] ["_law_pen_here", "_law_options"] (defScope (top 17)) := ⟨rfl, rfl, rfl, by decide +kernel, rfl, by decide +kernel, by decide +kernel⟩
theorem ok__law_pick (F : FnW K "_law_pick" (top 17)) (hm : mg "_law_pick" = some (.ref (He.ga K "_law_pick"))) (c__law_draw : Kn P w K mg base "_law_draw" 1 ["_law_pen_here", "_law_many"] f__law_draw) (g_len : mg "len" = none) : Kn P w K mg base "_law_pick" 2 ["_law_pen_here", "_law_options"] f__law_pick := by
  have sc := sc__law_pick
  refine kn_ok F hm sc (fun _ _ _ _ _ _ us hl => match us, hl with | [_, _], _ => rfl) (k := 1) fun cdv A outer s H E hr tk hp hu hu1 => ?_
  exact (jss_one (js_ret (je_ixV 1 (je_callK c__law_draw (hr.mono (by omega)) tk rfl (ja_cons (je_var 0) (ja_cons (je_b1 call_len k_len rfl g_len (by kernel_rfl) (jb_var 1)) ja_nil))))))
theorem sc__law_shuffled : FnScope ["_law_pen_here", "_law_items", "_law_rest", "_law_found"] ["_law_pen_here", "_law_items"] (defScope (top 18)) := ⟨rfl, rfl, rfl, by decide +kernel, rfl, by decide +kernel, by decide +kernel⟩
theorem ok__law_shuffled (F : FnW K "_law_shuffled" (top 18)) (hm : mg "_law_shuffled" = some (.ref (He.ga K "_law_shuffled"))) (c__law_draw : Kn P w K mg base "_law_draw" 1 ["_law_pen_here", "_law_many"] f__law_draw) (g_len : mg "len" = none) (g_list : mg "list" = none) : Kn P w K mg base "_law_shuffled" 2 ["_law_pen_here", "_law_items"] f__law_shuffled := by
  have sc := sc__law_shuffled
  refine kn_ok F hm sc (fun _ _ _ _ _ _ us hl => match us, hl with | [_, _], _ => rfl) (k := 1) fun cdv A outer s H E hr tk hp hu hu1 => ?_
  exact (jss_cons (js_parFF rfl sc.nd (i := 2) (j := 3) rfl rfl (by decide) rfl rfl (jf_t1 call_list_of k_list rfl g_list (by kernel_rfl) (jb_var 1)) (jf_lst ja_nil) rfl)
  (jss_cons (js_while hp (jt_neV 2 hu (je_fz (jf_lst ja_nil))) (jss_one (js_expr (je_app (je_popAt (je_callK c__law_draw (hr.mono (by omega)) tk rfl (ja_cons (je_var 0) (ja_cons (je_b1 call_len k_len rfl g_len (by kernel_rfl) (jb_var 2)) ja_nil))))))))
  (jss_one (js_ret (je_var 3)))))
theorem sc_listed : FnScope ["rows", "size", "p"] ["rows"] (defScope (top 11)) := ⟨rfl, rfl, rfl, by decide +kernel, rfl, by decide +kernel, by decide +kernel⟩
theorem ok_listed (F : FnW K "listed" (top 11)) (hm : mg "listed" = some (.ref (He.ga K "listed"))) (c_orders : Kn P w K mg base "orders" 8 ["things"] (f_orders 8)) (g_tuple : mg "tuple" = none) (g_range : mg "range" = none) (g_list : mg "list" = none) (g_len : mg "len" = none) : Kn P w K mg base "listed" 9 ["rows"] f_listed := by
  have sc := sc_listed
  refine kn_ok F hm sc (fun _ _ _ _ _ _ us hl => match us, hl with | [_], _ => rfl) (k := 8) fun cdv A outer s H E hr tk hp hu hu1 => ?_
  exact (jss_cons (js_if (jt_not (jt_truthN 0)) (jss_one (js_ret (je_tup ja_nil))) jss_nil)
  (jss_cons (js_set sc.nd (i := 1) rfl (by first | exact Or.inl rfl | exact Or.inr rfl) (je_b1 call_len k_len rfl g_len (by kernel_rfl) (jb_of (je_ix (je_fz (jf_listS rfl rfl g_list (by kernel_rfl) (jb_var 0))) je_int))))
  (jss_one (js_ret (je_t1 call_tuple_of k_tuple rfl g_tuple (by kernel_rfl) (jb_new (jf_lc (own := [("p", 2)]) rfl sc.nd (ji_seq (je_callK c_orders (hr.mono (by omega)) tk rfl (ja_cons (je_tupRg rfl rfl g_tuple rfl g_range (je_var 1)) ja_nil))) (blk_ok (by kernel_rfl)) (fun s2 H2 C2 cl2 fp2 => (jg_name sc.nd rfl (by first | exact Or.inl rfl | exact Or.inr rfl))) (fun s2 H2 C2 cl2 fp2 => (jts_one (jt_hasI hu1 (je_var 2) (je_var 0)))) (fun s2 H2 C2 cl2 fp2 => (je_var 2)))))))))
theorem sc_generated : FnScope ["size", "rows", "row", "start", "found", "waiting", "p", "made"] ["size", "rows"] (defScope (top 12)) := ⟨rfl, rfl, rfl, by decide +kernel, rfl, by decide +kernel, by decide +kernel⟩
theorem ok_generated (F : FnW K "generated" (top 12)) (hm : mg "generated" = some (.ref (He.ga K "generated"))) (c_listed : Kn P w K mg base "listed" 9 ["rows"] f_listed) (c_after : Kn P w K mg base "after" 1 ["p", "q"] f_after) (c_sized : Kn P w K mg base "sized" 2 ["p", "size"] f_sized) (g_tuple : mg "tuple" = none) (g_range : mg "range" = none) : Kn P w K mg base "generated" 10 ["size", "rows"] f_generated := by
  have sc := sc_generated
  refine kn_ok F hm sc (fun _ _ _ _ _ _ us hl => match us, hl with | [_, _], _ => rfl) (k := 9) fun cdv A outer s H E hr tk hp hu hu1 => ?_
  exact (jss_cons (js_for hp rfl (ji_seq (je_var 1)) (jg_name sc.nd rfl (by first | exact Or.inl rfl | exact Or.inr rfl)) (jss_one (js_expr (je_callK c_sized (hr.mono (by omega)) tk rfl (ja_cons (je_var 2) (ja_cons (je_var 0) ja_nil))))))
  (jss_cons (js_set sc.nd (i := 3) rfl (by first | exact Or.inl rfl | exact Or.inr rfl) (je_tupRg rfl rfl g_tuple rfl g_range (je_var 0)))
  (jss_cons (js_set sc.nd (i := 4) rfl (by first | exact Or.inl rfl | exact Or.inr rfl) (je_dict1T (Nat.lt_of_succ_lt hu1) (je_var 3) je_bl))
  (jss_cons (js_own sc.nd (i := 5) rfl (by first | exact Or.inl rfl | exact Or.inr rfl) (jf_lst (ja_cons (je_var 3) ja_nil)))
  (jss_cons (js_while hp (jt_truthV 5) (jss_cons (js_set sc.nd (i := 6) rfl (by first | exact Or.inl rfl | exact Or.inr rfl) je_pop)
  (jss_one (js_for hp rfl (ji_seq (je_var 1)) (jg_name sc.nd rfl (by first | exact Or.inl rfl | exact Or.inr rfl)) (jss_cons (js_set sc.nd (i := 7) rfl (by first | exact Or.inl rfl | exact Or.inr rfl) (je_callK c_after (hr.mono (by omega)) tk rfl (ja_cons (je_var 2) (ja_cons (je_var 6) ja_nil))))
  (jss_one (js_if (jt_hasN hu1 (je_var 7) (je_var 4)) (jss_cons (js_putT hu1 (je_var 4) (je_var 7) je_bl)
  (jss_one (js_expr (je_app (je_var 7))))) jss_nil)))))))
  (jss_one (js_ret (je_callK c_listed (hr.mono (by omega)) tk rfl (ja_cons (je_var 4) ja_nil)))))))))
theorem sc__law_pen : FnScope ["_law_script"] ["_law_script"] (defScope (top 15)) := ⟨rfl, rfl, rfl, by decide +kernel, rfl, by decide +kernel, by decide +kernel⟩
theorem ok__law_pen (F : FnW K "_law_pen" (top 15)) (hm : mg "_law_pen" = some (.ref (He.ga K "_law_pen"))) (g_list : mg "list" = none) : Kn P w K mg base "_law_pen" 1 ["_law_script"] f__law_pen := by
  have sc := sc__law_pen
  refine kn_ok F hm sc (fun _ _ _ _ _ _ us hl => match us, hl with | [_], _ => rfl) (k := 0) fun cdv A outer s H E hr tk hp hu hu1 => ?_
  exact (jss_one (js_ret (je_dict (jp_cons (ke := .inr "cells") pe_str (je_fz (jf_t1 call_list_of k_list rfl g_list (by kernel_rfl) (jb_of (je_slN 0 jo_none (jo_some je_int))))) (jp_cons (ke := .inr "begun") pe_str je_int (jp_cons (ke := .inr "rest") pe_str je_int jp_nil))) (by decide))))
theorem sc_law : FnScope ["_law_script", "_law_pen_here", "_law_size", "_law_groups", "_law_k", "_law_rows", "_law_spots", "_law_made", "_law_at", "_law_each", "_law_turned", "_law_two", "_law_due", "_law_told", "_law_j", "_law_c", "_law_p"] ["_law_script"] (defScope (top 23)) := ⟨rfl, rfl, rfl, by decide +kernel, rfl, by decide +kernel, by decide +kernel⟩
theorem ok_law (F : FnW K "law" (top 23)) (hm : mg "law" = some (.ref (He.ga K "law"))) (c_compose : Kn P w K mg base "compose" 3 ["p", "q"] f_compose) (c_inverse : Kn P w K mg base "inverse" 2 ["p"] f_inverse) (c__law_whole : Kn P w K mg base "_law_whole" 1 ["_law_value"] f__law_whole) (c_conjugate : Kn P w K mg base "conjugate" 9 ["first", "second"] f_conjugate) (c__law_turns : Kn P w K mg base "_law_turns" 9 ["_law_size"] f__law_turns) (c__law_carried : Kn P w K mg base "_law_carried" 10 ["_law_size", "_law_group", "_law_c"] f__law_carried) (c__law_pick : Kn P w K mg base "_law_pick" 2 ["_law_pen_here", "_law_options"] f__law_pick) (c__law_shuffled : Kn P w K mg base "_law_shuffled" 2 ["_law_pen_here", "_law_items"] f__law_shuffled) (c_generated : Kn P w K mg base "generated" 10 ["size", "rows"] f_generated) (c__law_draw : Kn P w K mg base "_law_draw" 1 ["_law_pen_here", "_law_many"] f__law_draw) (c__law_pen : Kn P w K mg base "_law_pen" 1 ["_law_script"] f__law_pen) (g_all : mg "all" = none) (g_isinstance : mg "isinstance" = none) (g_tuple : mg "tuple" = none) (g_list : mg "list" = none) (g_range : mg "range" = none) (g_len : mg "len" = none) : Kn P w K mg base "law" 11 ["_law_script"] f_law := by
  have sc := sc_law
  refine kn_ok F hm sc (fun _ _ _ _ _ _ us hl => match us, hl with | [_], _ => rfl) (k := 10) fun cdv A outer s H E hr tk hp hu hu1 => ?_
  exact (jss_cons (js_set sc.nd (i := 1) rfl (by first | exact Or.inl rfl | exact Or.inr rfl) (je_callK c__law_pen (hr.mono (by omega)) tk rfl (ja_cons (je_var 0) ja_nil)))
  (jss_cons (js_set sc.nd (i := 2) rfl (by first | exact Or.inl rfl | exact Or.inr rfl) (je_callK c__law_draw (hr.mono (by omega)) tk rfl (ja_cons (je_var 1) (ja_cons je_int ja_nil))))
  (jss_cons (js_own sc.nd (i := 3) rfl (by first | exact Or.inl rfl | exact Or.inr rfl) (jf_lst ja_nil))
  (jss_cons (js_for hp rfl (ji_range1 rfl g_range (ja_cons je_int ja_nil)) (jg_name sc.nd rfl (by first | exact Or.inl rfl | exact Or.inr rfl)) (jss_cons (js_lc (own := [("_law_j", 14)]) rfl sc.nd (i := 5) rfl rfl (sw_true rfl rfl rfl (by kernel_rfl)) (ji_range1 rfl g_range (ja_cons (je_callK c__law_draw (hr.mono (by omega)) tk rfl (ja_cons (je_var 1) (ja_cons je_int ja_nil))) ja_nil)) (blk_ok (by kernel_rfl)) (fun s2 H2 C2 cl2 fp2 => (jg_name sc.nd rfl (by first | exact Or.inl rfl | exact Or.inr rfl))) (fun s2 H2 C2 cl2 fp2 => jts_nil) (fun s2 H2 C2 cl2 fp2 => (je_t1 call_tuple_of k_tuple rfl g_tuple (by kernel_rfl) (jb_of (je_callK c__law_shuffled (hr.mono (by omega)) tkF rfl (ja_cons (je_var 1) (ja_cons (je_fz (jf_listRg rfl rfl g_list rfl g_range (je_var 2))) ja_nil)))))))
  (jss_cons (js_if (jt_cmp (op_eqX hu) k_eq (je_callK c__law_draw (hr.mono (by omega)) tk rfl (ja_cons (je_var 1) (ja_cons je_int ja_nil))) je_int (nomark _)) (jss_cons (js_set sc.nd (i := 6) rfl (by first | exact Or.inl rfl | exact Or.inr rfl) (je_sl (je_callK c__law_shuffled (hr.mono (by omega)) tk rfl (ja_cons (je_var 1) (ja_cons (je_fz (jf_listRg rfl rfl g_list rfl g_range (je_var 2))) ja_nil))) jo_none (jo_some (je_bin op_mulX k_mulX je_int (je_callK c__law_draw (hr.mono (by omega)) tk rfl (ja_cons (je_var 1) (ja_cons je_int ja_nil)))))))
  (jss_cons (js_own sc.nd (i := 7) rfl (by first | exact Or.inl rfl | exact Or.inr rfl) (jf_listRg rfl rfl g_list rfl g_range (je_var 2)))
  (jss_cons (js_for hp rfl (ji_range3 rfl g_range (ja_cons je_int (ja_cons (je_bin op_sub k_sub (je_b1 call_len k_len rfl g_len (by kernel_rfl) (jb_var 6)) je_int) (ja_cons je_int ja_nil)))) (jg_name sc.nd rfl (by first | exact Or.inl rfl | exact Or.inr rfl)) (jss_cons (js_setIx (je_ixV 6 (je_bin op_addX k_addX (je_var 8) je_int)) (je_ixV 6 (je_var 8)))
  (jss_one (js_setIx (je_ixV 6 (je_var 8)) (je_ixV 6 (je_bin op_addX k_addX (je_var 8) je_int))))))
  (jss_one (js_own sc.nd (i := 5) rfl (by first | exact Or.inl rfl | exact Or.inr rfl) (jf_bin op_cat k_laddF (je_slN 5 jo_none (jo_some (je_bin op_fdivW k_div (je_callK c__law_draw (hr.mono (by omega)) tk rfl (ja_cons (je_var 1) (ja_cons je_int ja_nil))) je_int))) (je_fz (jf_lst (ja_cons (je_t1 call_tuple_of k_tuple rfl g_tuple (by kernel_rfl) (jb_var 7)) ja_nil))))))))) jss_nil)
  (jss_one (js_expr (je_app (je_callK c_generated (hr.mono (by omega)) tk rfl (ja_cons (je_var 2) (ja_cons (je_t1 call_tuple_of k_tuple rfl g_tuple (by kernel_rfl) (jb_var 5)) ja_nil)))))))))
  (jss_cons (js_set sc.nd (i := 9) rfl (by first | exact Or.inl rfl | exact Or.inr rfl) (je_ixV 3 je_int))
  (jss_cons (js_set sc.nd (i := 10) rfl (by first | exact Or.inl rfl | exact Or.inr rfl) (je_t1 call_tuple_of k_tuple rfl g_tuple (by kernel_rfl) (jb_of (je_callK c__law_shuffled (hr.mono (by omega)) tk rfl (ja_cons (je_var 1) (ja_cons (je_fz (jf_listRg rfl rfl g_list rfl g_range (je_var 2))) ja_nil))))))
  (jss_cons (js_set sc.nd (i := 11) rfl (by first | exact Or.inl rfl | exact Or.inr rfl) (je_callK c__law_pick (hr.mono (by omega)) tk rfl (ja_cons (je_var 1) (ja_cons (je_fz (jf_lst (ja_cons (je_ixV 3 je_int) (ja_cons (je_callK c__law_carried (hr.mono (by omega)) tk rfl (ja_cons (je_var 2) (ja_cons (je_var 9) (ja_cons (je_var 10) ja_nil)))) (ja_cons (je_ixV 3 je_int) ja_nil))))) ja_nil))))
  (jss_cons (js_lc (own := [("_law_c", 15)]) rfl sc.nd (i := 12) rfl rfl (sw_true rfl rfl rfl (by kernel_rfl)) (ji_seq (je_callK c__law_turns (hr.mono (by omega)) tk rfl (ja_cons (je_var 2) ja_nil))) (blk_ok (by kernel_rfl)) (fun s2 H2 C2 cl2 fp2 => (jg_name sc.nd rfl (by first | exact Or.inl rfl | exact Or.inr rfl))) (fun s2 H2 C2 cl2 fp2 => (jts_one (jt_cmp (op_eqX hu) k_eq (je_callK c__law_carried (hr.mono (by omega)) tkF rfl (ja_cons (je_var 2) (ja_cons (je_var 9) (ja_cons (je_var 15) ja_nil)))) (je_var 11) (nomark _)))) (fun s2 H2 C2 cl2 fp2 => (je_var 15)))
  (jss_cons (js_set sc.nd (i := 13) rfl (by first | exact Or.inl rfl | exact Or.inr rfl) (je_callK c_conjugate (hr.mono (by omega)) tk rfl (ja_cons (je_var 9) (ja_cons (je_var 11) ja_nil))))
  (jss_cons (js_if (JW.jt (jw_or (jt_neV 13 hu (je_if (jt_neV 12 hu (je_fz (jf_lst ja_nil))) (je_ixV 12 je_int) je_non)) (jw_or1 (jt_cmp (op_neX hu) k_ne (je_cmp op_isN k_isN (je_var 13) je_non (nomark _)) (je_cmp op_isN k_isN (je_callK c_conjugate (hr.mono (by omega)) tk rfl (ja_cons (je_var 11) (ja_cons (je_var 9) ja_nil))) je_non (nomark _)) (nomark _))))) (jss_one (js_ret je_bl)) jss_nil)
  (jss_cons (js_if (jt_cmp op_isN k_isN (je_var 13) je_non (nomark _)) (jss_one (js_ret je_bl)) jss_nil)
  (jss_cons (js_if (JW.jt (jw_or (jt_not (jt_truth (je_isi (T := "tuple") (by decide) rfl g_isinstance rfl g_tuple (by kernel_rfl) (jb_var 13)))) (jw_or1 (jt_not (jt_truth (je_b1 (cr_all rfl) k_all rfl g_all (by kernel_rfl) (jb_new (jf_lc (own := [("_law_at", 8)]) rfl sc.nd (ji_seq (je_var 13)) (blk_ok (by kernel_rfl)) (fun s2 H2 C2 cl2 fp2 => (jg_name sc.nd rfl (by first | exact Or.inl rfl | exact Or.inr rfl))) (fun s2 H2 C2 cl2 fp2 => jts_nil) (fun s2 H2 C2 cl2 fp2 => (je_callK c__law_whole (hr.mono (by omega)) tkF rfl (ja_cons (je_var 8) ja_nil))))))))))) (jss_one (js_ret je_bl)) jss_nil)
  (jss_one (js_ret (je_b1 (cr_all rfl) k_all rfl g_all (by kernel_rfl) (jb_new (jf_lc (own := [("_law_p", 16)]) rfl sc.nd (ji_seq (je_var 9)) (blk_ok (by kernel_rfl)) (fun s2 H2 C2 cl2 fp2 => (jg_name sc.nd rfl (by first | exact Or.inl rfl | exact Or.inr rfl))) (fun s2 H2 C2 cl2 fp2 => jts_nil) (fun s2 H2 C2 cl2 fp2 => (je_inV 11 hu (je_callK c_compose (hr.mono (by omega)) tkF rfl (ja_cons (je_callK c_compose (hr.mono (by omega)) tkF rfl (ja_cons (je_var 13) (ja_cons (je_var 16) ja_nil))) (ja_cons (je_callK c_inverse (hr.mono (by omega)) tkF rfl (ja_cons (je_var 13) ja_nil)) ja_nil))))))))))))))))))))))
end
end
end K58

namespace K58
open PySem L2 DL LC
/-- a slot without an error -/
def nx : Slot → Prop
  | .xn _ => False
  | _ => True
theorem nx_all {sl : List Slot} {st : List Ob} (h : ∀ x ∈ sl, nx x) : noX ⟨sl, st⟩ = true := by
  unfold noX
  rw [List.all_eq_true]
  intro x hx
  have := h x hx
  cases x <;> first | rfl | exact this.elim
abbrev hS (a n : D) (g : List D) (r4 r5 r6 r7 r8 : Slot) (st : List Ob) : S := ⟨[.imm a, .imm (.loc 0), .imm n, .own g, r4, r5, r6, r7, r8, .emp, .emp, .emp, .emp, .emp, .emp, .emp, .emp], st⟩
section
variable {fd fs fg : Fn} {a n b k x y z w : D} {g l l2 ds es : List D} {r4 r5 r6 r7 r8 : Slot} {st st1 st2 st3 : List Ob} {M : MA} {rr : List D → Option (List D)} {rg : D → Option (List D)} {i j : Int}
theorem b1_it (e : fd [.loc 0, .int 3] st = .ok k st1) (rk : rr [k] = some l) : mRng rr (mCons (mCall fd (mCons (mVar 1) (mCons (mC (.int 3)) mNil))) mNil) (hS a n g r4 r5 r6 r7 r8 st) = .ok l (hS a n g r4 r5 r6 r7 r8 st1) := by
  simp [mRng, mCons, mCall, mVar, mC, mNil, bnd, DL.ret, e, outR, rk]
theorem b1_el (hr : rg n = some l) (e : fs [.loc 0, .lst l] st = .ok (.lst l2) st1) : mUn fTuple (mCall fs (mCons (mVar 1) (mCons (mFz (mUnF rg (mVar 2))) mNil))) ((hS a n g r4 r5 r6 r7 r8 st).put 14 (.imm x)) = .ok (.tup l2) ((hS a n g r4 r5 r6 r7 r8 st1).put 14 (.imm x)) := by
  simp [mUn, mCall, mCons, mVar, mFz, mUnF, mNil, bnd, S.put, hr, DL.ret, e, outR, fTuple, itD, lift]
theorem b1 (e : M (hS a n g r4 r5 r6 r7 r8 st) = .ok ds (hS a n g r4 r5 r6 r7 r8 st1)) : mOwn 5 M (hS a n g r4 r5 r6 r7 r8 st) = .ok .nx (hS a n g r4 (.own ds) r6 r7 r8 st1) := by
  simp [mOwn, bnd, e, S.put]
theorem b2_no {B : MS} {i : Int} (e : fd [.loc 0, .int 2] st = .ok (.int i) st1) (h : i ≠ 0) : mIfS (mBl (mBin fEq (mCall fd (mCons (mVar 1) (mCons (mC (.int 2)) mNil))) (mC (.int 0)))) B mPass (hS a n g r4 r5 r6 r7 r8 st) = .ok .nx (hS a n g r4 r5 r6 r7 r8 st1) := by
  have q : fEq (.int i) (.int 0) = some (.bl false) := by simp [fEq, dEq, deq, sc, h]
  simp [mIfS, mBl, mBin, mCall, mCons, mVar, mC, mNil, bnd, DL.ret, e, outR, q, lift, optB, isBl, mPass]
theorem b2_yes {B : MS} (e : fd [.loc 0, .int 2] st = .ok (.int 0) st1) : mIfS (mBl (mBin fEq (mCall fd (mCons (mVar 1) (mCons (mC (.int 2)) mNil))) (mC (.int 0)))) B mPass (hS a n g r4 r5 r6 r7 r8 st) = B (hS a n g r4 r5 r6 r7 r8 st1) := by
  have q : fEq (.int 0) (.int 0) = some (.bl true) := by simp [fEq, dEq, deq, sc]
  simp [mIfS, mBl, mBin, mCall, mCons, mVar, mC, mNil, bnd, DL.ret, e, outR, q, lift, optB, isBl]
theorem s1 (hr : rg n = some l) (e : fs [.loc 0, .lst l] st = .ok y st1) (e2 : fd [.loc 0, .int 3] st1 = .ok (.int i) st2) (e3 : fMul (.int 2) (.int i) = some (.int j)) (e4 : cutD y none (some j) = some z) : mSet 6 (mSl (mCall fs (mCons (mVar 1) (mCons (mFz (mUnF rg (mVar 2))) mNil))) mNoP (mPart (mBin fMul (mC (.int 2)) (mCall fd (mCons (mVar 1) (mCons (mC (.int 3)) mNil)))))) (hS a n g r4 r5 r6 r7 r8 st) = .ok .nx (hS a n g r4 r5 (.imm z) r7 r8 st2) := by
  simp [mSet, mSl, mCall, mCons, mVar, mFz, mUnF, mNil, bnd, hr, DL.ret, e, outR, mNoP, mPart, mBin, mC, e2, e3, lift, e4, S.put]
theorem s2 (hr : rg n = some l) : mOwn 7 (mUnF rg (mVar 2)) (hS a n g r4 r5 r6 r7 r8 st) = .ok .nx (hS a n g r4 r5 r6 (.own l) r8 st) := by
  simp [mOwn, mUnF, mVar, bnd, hr, S.put]
theorem s3_it (e1 : fLen x = some (.int i)) (e2 : rr [.int 0, .int (i - 1), .int 2] = some l) : mRng rr (mCons (mC (.int 0)) (mCons (mBin iSub (mUn fLen (mLook 6)) (mC (.int 1))) (mCons (mC (.int 2)) mNil))) (hS a n g r4 r5 (.imm x) r7 r8 st) = .ok l (hS a n g r4 r5 (.imm x) r7 r8 st) := by
  simp [mRng, mCons, mC, mBin, mUn, mLook, cur, bnd, DL.ret, e1, lift, iSub, intF, mNil, e2]
theorem s4 {ad : D → D → Option (List D)} (e : fd [.loc 0, .int 3] st = .ok (.int i) st1) (e1 : iDiv (.int i) (.int 2) = some (.int j)) (e2 : cutD (.lst ds) none (some j) = some y) (e3 : ad y (.lst [.tup l]) = some es) : mOwn 5 (mBinF ad (mSlN 5 mNoP (mPart (mBin iDiv (mCall fd (mCons (mVar 1) (mCons (mC (.int 3)) mNil))) (mC (.int 2))))) (mFz (mLst (mCons (mUn fTuple (mLook 7)) mNil)))) (hS a n g r4 (.own ds) r6 (.own l) r8 st) = .ok .nx (hS a n g r4 (.own es) r6 (.own l) r8 st1) := by
  simp [mOwn, mBinF, mSlN, cur, mNoP, mPart, mBin, mCall, mCons, mVar, mC, mNil, bnd, DL.ret, e, outR, e1, lift, e2, mFz, mLst, mUn, mLook, fTuple, itD, few, e3, S.put]
theorem b3 (e : fg [n, .tup ds] st = .ok y st1) (h : g.length + 1 ≤ 1000000) : mExpr (mApp 3 (mCall fg (mCons (mVar 2) (mCons (mUn fTuple (mLook 5)) mNil)))) (hS a n g r4 (.own ds) r6 r7 r8 st) = .ok .nx (hS a n (g ++ [y]) r4 (.own ds) r6 r7 r8 st1) := by
  simp [mExpr, mApp, mCall, mCons, mVar, mUn, mLook, cur, fTuple, itD, mNil, bnd, lift, DL.ret, e, outR, few, h, S.put]
end
noncomputable abbrev b2M : MS := mIfS (mBl (mBin fEq (mCall f__law_draw (mCons (mVar 1) (mCons (mC (.int 2)) mNil))) (mC (.int 0)))) (mSeq (mSet 6 (mSl (mCall f__law_shuffled (mCons (mVar 1) (mCons (mFz (mUnF rgD (mVar 2))) mNil))) mNoP (mPart (mBin fMul (mC (.int 2)) (mCall f__law_draw (mCons (mVar 1) (mCons (mC (.int 3)) mNil)))))))
  (mSeq (mOwn 7 (mUnF rgD (mVar 2)))
  (mSeq (mFor (mRng rng3 (mCons (mC (.int 0)) (mCons (mBin iSub (mUn fLen (mLook 6)) (mC (.int 1))) (mCons (mC (.int 2)) mNil)))) (gNm 8) wbody)
  (mOwn 5 (mBinF lAddL (mSlN 5 mNoP (mPart (mBin iDiv (mCall f__law_draw (mCons (mVar 1) (mCons (mC (.int 3)) mNil))) (mC (.int 2))))) (mFz (mLst (mCons (mUn fTuple (mLook 7)) mNil)))))))) mPass
theorem add_lst {ds es : List D} (h : ds.length + es.length ≤ 1000) : lAddL (.lst ds) (.lst es) = some (ds ++ es) := by
  have f : few (ds.length + es.length) := by unfold few; omega
  simp [lAddL, f]
theorem b2_spec {n : Nat} {a : D} {g : List D} {r4 r6 r7 r8 : Slot} {B : Nat} {st : List Ob} {R : List (List Int)} (hn : n < 5) (hp : IsPen B st) (hB : B + 10 < 2 ^ 30) (hR : ∀ r ∈ R, Pm n r) (lR : R.length ≤ 2) (h6 : nx r6) (h7 : nx r7) (h8 : nx r8) :
    ∃ (R' : List (List Int)) (r6' r7' r8' : Slot) (st' : List Ob), b2M (hS a (.int n) g r4 (.own (R.map tp)) r6 r7 r8 st) = .ok .nx (hS a (.int n) g r4 (.own (R'.map tp)) r6' r7' r8' st') ∧ (∀ r ∈ R', Pm n r) ∧ R'.length ≤ 3 ∧ nx r6' ∧ nx r7' ∧ nx r8' ∧ IsPen (B + 10) st' := by
  obtain ⟨i, st1, e1, i0, i1, p1⟩ := draw_spec (m := 2) hp (by omega) (by omega) (by omega)
  by_cases hi : i = 0
  · subst hi
    have l := rgI_len n
    obtain ⟨q, st2, e2, pq, p2⟩ := shuf_spec (ns := rgI n) p1 (by omega) (by omega)
    have pq : Pm n q := pq
    obtain ⟨mi, st3, e3, m0, m1, p3⟩ := draw_spec (m := 3) p2 (by omega) (by omega) (by omega)
    obtain ⟨m, rfl⟩ : ∃ m : Nat, mi = m := ⟨mi.toNat, by omega⟩
    obtain ⟨ji, st4, e4, j0, j1, p4⟩ := draw_spec (m := 3) p3 (by omega) (by omega) (by omega)
    have rn := rgD_n (n := n) (by omega)
    have mu : fMul (.int 2) (.int (m : Int)) = some (.int ((2 * m : Nat) : Int)) := by
      rw [mul_ok (by omega) (by omega) (by omega) (by omega)]
      congr 2
    have c1 : cutD (.lst (q.map .int)) none (some ((2 * m : Nat) : Int)) = some (.lst ((q.take (2 * m)).map .int)) := by
      show some (D.lst (cutL (q.map D.int) none (some ((2 * m : Nat) : Int)))) = _
      rw [cut_take, List.map_take]
    have lq := pq.len
    have ls : (q.take (2 * m)).length ≤ 4 := by rw [List.length_take]; omega
    have fl : fLen (.lst ((q.take (2 * m)).map .int)) = some (.int ((q.take (2 * m)).length : Int)) := by simp [fLen, itD]
    have r3 := rng3_ats ls
    obtain ⟨r8', ef, q8⟩ := w_for (n := n) (sp := q.take (2 * m)) (r0 := .imm a) (r1 := .imm (.loc 0)) (r2 := .imm (.int n)) (r3 := .own g) (r4 := r4) (r5 := .own (R.map tp)) (r9 := .emp) (r10 := .emp) (r11 := .emp) (r12 := .emp) (r13 := .emp) (r14 := .emp) (r15 := .emp) (r16 := .emp) (st := st3) (fun x hx => pq.mem (List.mem_of_mem_take hx)) (ats (q.take (2 * m)).length) (rgI n) r8 (fun x hx => ats_ok ls hx) l
    obtain ⟨j, hj, hj2⟩ : ∃ j : Nat, (ji / 2) = j ∧ j ≤ 1 := ⟨(ji / 2).toNat, by omega, by omega⟩
    have dv : iDiv (.int ji) (.int 2) = some (.int (j : Int)) := by
      have k9 : bits 2 < 9000 := by decide
      simp [iDiv, intF, k9, hj]
    have c2 : cutD (.lst (R.map tp)) none (some (j : Int)) = some (.lst ((R.take j).map tp)) := by
      show some (D.lst (cutL (R.map tp) none (some (j : Int)))) = _
      rw [cut_take, List.map_take]
    have ad : lAddL (.lst ((R.take j).map tp)) (.lst [tp (swpL n (q.take (2 * m)))]) = some ((R.take j ++ [swpL n (q.take (2 * m))]).map tp) := by
      rw [add_lst (by simp; omega), List.map_append]
      rfl
    refine ⟨R.take j ++ [swpL n (q.take (2 * m))], .imm (.lst ((q.take (2 * m)).map .int)), .own ((swpL n (q.take (2 * m))).map .int), r8', st4, ?_, fun r hr => ?_, by simp; omega, trivial, trivial, ?_, p4.mono (by omega)⟩
    · unfold b2M
      rw [b2_yes e1, seq_nx (s1 rn e2 e3 mu c1), seq_nx (s2 rn)]
      have sf : mFor (mRng rng3 (mCons (mC (.int 0)) (mCons (mBin iSub (mUn fLen (mLook 6)) (mC (.int 1))) (mCons (mC (.int 2)) mNil)))) (gNm 8) wbody (hS a (.int n) g r4 (.own (R.map tp)) (.imm (.lst ((q.take (2 * m)).map .int))) (.own ((rgI n).map .int)) r8 st3) = .ok .nx (hS a (.int n) g r4 (.own (R.map tp)) (.imm (.lst ((q.take (2 * m)).map .int))) (.own ((swpL n (q.take (2 * m))).map .int)) r8' st3) := by
        unfold mFor
        rw [bnd_of (s3_it fl r3)]
        exact ef
      rw [seq_nx sf]
      exact s4 e4 dv c2 ad
    · rcases List.mem_append.mp hr with z | z
      · exact hR r (List.mem_of_mem_take z)
      · rw [List.mem_singleton.mp z]
        exact swp_pm hn pq (by omega)
    · rcases q8 with rfl | ⟨d, rfl⟩
      · exact h8
      · trivial
  · exact ⟨R, r6, r7, r8, st1, b2_no e1 hi, hR, by omega, h6, h7, h8, p1.mono (by omega)⟩
end K58

namespace K58
open PySem L2 DL LC
noncomputable abbrev b1M : MA := mLc (mRng rng1 (mCons (mCall f__law_draw (mCons (mVar 1) (mCons (mC (.int 3)) mNil))) mNil)) (gNm 14) mYes (mUn fTuple (mCall f__law_shuffled (mCons (mVar 1) (mCons (mFz (mUnF rgD (mVar 2))) mNil)))) [14]
noncomputable abbrev hbody : MS := mSeq (mOwn 5 b1M) (mSeq b2M (mExpr (mApp 3 (mCall f_generated (mCons (mVar 2) (mCons (mUn fTuple (mLook 5)) mNil))))))
theorem rows_back : ∀ {zs : List D} {n : Nat}, (∀ z ∈ zs, ∃ p, Pm n p ∧ z = tp p) → ∃ R : List (List Int), zs = R.map tp ∧ ∀ r ∈ R, Pm n r
  | [], _, _ => ⟨[], rfl, fun r h => (by cases h)⟩
  | z :: zs, n, h => by
    obtain ⟨p, hp, e⟩ := h z List.mem_cons_self
    obtain ⟨R, e2, hR⟩ := rows_back fun x hx => h x (List.mem_cons_of_mem _ hx)
    refine ⟨p :: R, by rw [e, e2]; rfl, fun r hr => ?_⟩
    rcases List.mem_cons.mp hr with rfl | hr
    · exact hp
    · exact hR r hr
theorem pen_more {B : Nat} {st : List Ob} {c : Ob} (h : IsPen B st) : IsPen B (st ++ [c]) := by
  obtain ⟨cs, b, r, rs, rfl, h⟩ := h
  exact ⟨cs, b, r, rs ++ [c], rfl, h⟩
theorem h_noX {a n : D} {g : List D} {r4 r5 r6 r7 r8 : Slot} {st : List Ob} (h4 : nx r4) (h5 : nx r5) (h6 : nx r6) (h7 : nx r7) (h8 : nx r8) : noX (hS a n g r4 r5 r6 r7 r8 st) = true := nx_all fun x hx => by
  simp only [List.mem_cons, List.not_mem_nil, or_false] at hx
  rcases hx with rfl | rfl | rfl | rfl | rfl | rfl | rfl | rfl | rfl | rfl | rfl | rfl | rfl | rfl | rfl | rfl | rfl <;> first | assumption | trivial
theorem hbody_spec {n : Nat} {a : D} {g : List D} {r4 r5 r6 r7 r8 : Slot} {B : Nat} {st : List Ob} (hn : n < 5) (hp : IsPen B st) (hB : B + 40 ≤ 900) (hg : g.length ≤ 10) (h4 : nx r4) (h5 : nx r5) (h6 : nx r6) (h7 : nx r7) (h8 : nx r8) :
    ∃ (R : List (List Int)) (r5' r6' r7' r8' : Slot) (st' : List Ob), hbody (hS a (.int n) g r4 r5 r6 r7 r8 st) = .ok .nx (hS a (.int n) (g ++ [.tup ((grp n R).map tp)]) r4 r5' r6' r7' r8' st') ∧ (∀ r ∈ R, Pm n r) ∧ nx r5' ∧ nx r6' ∧ nx r7' ∧ nx r8' ∧ IsPen (B + 40) st' := by
  obtain ⟨ki, st1, e1, k0, k1, p1⟩ := draw_spec (m := 3) hp (by omega) (by omega) (by omega)
  obtain ⟨k, rfl⟩ : ∃ k : Nat, ki = k := ⟨ki.toNat, by omega⟩
  have rk := rng_n (n := k) (by omega)
  have lk := rgI_len k
  have rn := rgD_n (n := n) (by omega)
  obtain ⟨zs, st2, e2, l2, q2, p2⟩ := lc_draw (i := 14) (it := mRng rng1 (mCons (mCall f__law_draw (mCons (mVar 1) (mCons (mC (.int 3)) mNil))) mNil)) (m := mUn fTuple (mCall f__law_shuffled (mCons (mVar 1) (mCons (mFz (mUnF rgD (mVar 2))) mNil)))) (s0 := hS a (.int n) g r4 r5 r6 r7 r8 st) (sl := [.imm a, .imm (.loc 0), .imm (.int n), .own g, r4, r5, r6, r7, r8, .emp, .emp, .emp, .emp, .emp, .emp, .emp, .emp]) (st := st1) (ds := (rgI k).map .int) (Q := fun z => ∃ p, Pm n p ∧ z = tp p) (M := 900) (c := 4) (b1_it e1 rk) p1 rfl (h_noX (a := a) (n := .int n) (g := g) (st := []) h4 h5 h6 h7 h8) (fun B st d hp hM => by
    have l := rgI_len n
    obtain ⟨p, st', e, pm, hp'⟩ := shuf_spec (ns := rgI n) hp (by omega) (by omega)
    exact ⟨tp p, st', b1_el rn e, ⟨p, pm, rfl⟩, hp'.mono (by omega)⟩) (by simp only [List.length_map]; omega) (by unfold few; simp only [List.length_map]; omega)
  obtain ⟨R, rfl, hR⟩ := rows_back q2
  simp only [List.length_map] at l2 p2
  obtain ⟨R', r6', r7', r8', st3, e3, hR', lR', h6', h7', h8', p3⟩ := b2_spec (a := a) (g := g) (r4 := r4) (r6 := r6) (r7 := r7) (r8 := r8) hn p2 (by omega) hR (by omega) h6 h7 h8
  obtain ⟨c, e4⟩ := generated_eq hn hR' (by omega) st3
  refine ⟨R', .own (R'.map tp), r6', r7', r8', st3 ++ [c], ?_, hR', trivial, h6', h7', h8', pen_more (p3.mono (by omega))⟩
  unfold hbody
  rw [seq_nx (b1 e2), seq_nx e3]
  exact b3 e4 (by omega)
theorem r2_eq {s : S} : mRng rng1 (mCons (mC (.int 2)) mNil) s = .ok [.int 0, .int 1] s := by
  have := rng_n (n := 2) (by omega)
  have e : rng1 [.int 2] = some [.int 0, .int 1] := this
  have gen : ∀ (rr : List D → Option (List D)) (l : List D), rr [.int 2] = some l → mRng rr (mCons (mC (.int 2)) mNil) s = .ok l s := fun rr l h => by simp [mRng, mCons, mC, mNil, bnd, DL.ret, h]
  exact gen _ _ e
theorem loop_spec {n : Nat} {a : D} {B : Nat} {st : List Ob} (hn : n < 5) (hp : IsPen B st) (hB : B + 80 ≤ 900) :
    ∃ (R1 R2 : List (List Int)) (r4 r5 r6 r7 r8 : Slot) (st' : List Ob), mFor (mRng rng1 (mCons (mC (.int 2)) mNil)) (gNm 4) hbody (hS a (.int n) [] .emp .emp .emp .emp .emp st) = .ok .nx (hS a (.int n) [.tup ((grp n R1).map tp), .tup ((grp n R2).map tp)] r4 r5 r6 r7 r8 st') ∧ (∀ r ∈ R1, Pm n r) ∧ (∀ r ∈ R2, Pm n r) ∧ nx r4 ∧ nx r5 ∧ nx r6 ∧ nx r7 ∧ nx r8 ∧ IsPen (B + 80) st' := by
  obtain ⟨R1, a5, a6, a7, a8, st1, e1, hR1, q5, q6, q7, q8, p1⟩ := hbody_spec (a := a) (g := []) (r4 := .imm (.int 0)) (r5 := .emp) (r6 := .emp) (r7 := .emp) (r8 := .emp) hn hp (by omega) (by simp) trivial trivial trivial trivial trivial
  obtain ⟨R2, c5, c6, c7, c8, st2, e2, hR2, t5, t6, t7, t8, p2⟩ := hbody_spec (a := a) (g := [] ++ [.tup ((grp n R1).map tp)]) (r4 := .imm (.int 1)) hn p1 (by omega) (by simp) trivial q5 q6 q7 q8
  refine ⟨R1, R2, .imm (.int 1), c5, c6, c7, c8, st2, ?_, hR1, hR2, trivial, t5, t6, t7, t8, p2.mono (by omega)⟩
  unfold mFor
  rw [bnd_of r2_eq]
  unfold fo
  simp only [gNm, S.puts, S.put, List.set_cons_succ, List.set_cons_zero]
  rw [e1]
  dsimp only
  unfold fo
  simp only [gNm, S.puts, S.put, List.set_cons_succ, List.set_cons_zero]
  rw [e2]
  rfl
/-! behind the loop -/
theorem grp_nm {n : Nat} {R : List (List Int)} : Nm n (grp n R) := nm_filter _
theorem grp_ne {n : Nat} {R : List (List Int)} (hR : ∀ r ∈ R, Pm n r) : grp n R ≠ [] := fun e => by
  have : rgI n ∈ grp n R := (mem_grp hR).mpr .one
  rw [e] at this
  cases this
theorem carr_ne {n : Nat} (hn : n < 5) {A : List (List Int)} (hA : Nm n A) (h0 : A ≠ []) {c : List Int} (hc : Pm n c) : carr n A c ≠ [] := by
  obtain ⟨p, A', rfl⟩ : ∃ p A', A = p :: A' := by
    cases A with
    | nil => exact absurd rfl h0
    | cons p A' => exact ⟨p, A', rfl⟩
  have hp := hA.pm (p := p) List.mem_cons_self
  have : cj n c p ∈ carr n (p :: A') c := by
    unfold carr
    rw [List.mem_filter, mem_permsL]
    refine ⟨cj_pm hn hc hp, decide_eq_true ?_⟩
    rw [map_car hn hA hc]
    exact List.mem_map_of_mem List.mem_cons_self
  intro e
  rw [e] at this
  cases this
theorem nm_len {n : Nat} (hn : n < 5) {A : List (List Int)} (h : Nm n A) : A.length ≤ 24 := pm_len hn (h.nd hn) fun p hp => h.pm hp
theorem back_pm {n : Nat} (hn : n < 5) {r : List Int} (hr : Pm n r) (st : List Ob) : f_back [tp r] st = .ok (tp (inv n r)) st := by
  have l := hr.len
  have e := back_eq (p := r) (st := st) (fun x hx => by have := hr.mem hx; omega) (by omega)
  rw [l] at e
  exact e
theorem carried_eq {n : Nat} (hn : n < 5) {A : List (List Int)} (hA : Nm n A) {c : List Int} (hc : Pm n c) (st : List Ob) : f__law_carried [.int n, .tup (A.map tp), tp c] st = .ok (.tup ((carr n A c).map tp)) st :=
  carried_gen (rp0 (n := n) (by omega)) (rng_n (n := n) (by omega)) hn hc (fun p hp => hA.pm hp) (by have := nm_len hn hA; omega) (turns_eq hn st)
theorem conj_eq {n : Nat} (hn : n < 5) {A B : List (List Int)} (hA : Nm n A) (hB : Nm n B) (h0 : A ≠ []) (st : List Ob) : f_conjugate [.tup (A.map tp), .tup (B.map tp)] st = .ok (match (permsL n).find? (test n A B) with | some c => tp c | none => .non) (st ++ [.dtt (kvF B)]) :=
  conj_gen (rgD_n (n := n) (by omega)) (orders_eq hn) (fun r p hr hp st => after_pm hn hr hp st) (fun r hr st => back_pm hn hr st) hn (fun p hp => hA.pm hp) (by have := nm_len hn hA; omega) h0 (hB.nd hn) (by have := nm_len hn hB; omega)
end K58

namespace K58
open PySem L2 DL LC
theorem deqs_tp (n : Nat) : ∀ X Y : List (List Int), deqs (deq (n + 1)) (X.map tp) (Y.map tp) = some (decide (X = Y))
  | [], [] => rfl
  | [], _ :: _ => rfl
  | _ :: _, [] => rfl
  | x :: X, y :: Y => by
    have ih := deqs_tp n X Y
    have e : deq (n + 1) (tp x) (tp y) = some (decide (x = y)) := deq_ints n x y
    simp only [List.map_cons, deqs, e, ih]
    by_cases h1 : x = y
    · subst h1; simp
    · simp [h1]
theorem eq_tps (X Y : List (List Int)) : fEq (.tup (X.map tp)) (.tup (Y.map tp)) = some (.bl (decide (X = Y))) := by
  have : deq 50 (.tup (X.map tp)) (.tup (Y.map tp)) = some (decide (X = Y)) := deqs_tp 48 X Y
  simp only [fEq, dEq, this, Option.map_some]
theorem fInQ_tpT (neg : Bool) (q : List Int) (F : List (List Int)) : fInQ neg (tp q) (.tup (F.map tp)) = some (.bl (if neg then !decide (q ∈ F) else decide (q ∈ F))) := by
  have h1 : (DL.pd 50 (tp q)).isSome = true := by rw [pd_tp]; rfl
  have h2 := pds_tp 49 F
  unfold fInQ
  simp only [seqD]
  rw [if_pos ⟨h1, h2⟩, inQ_tp]
theorem whole_int (i : Int) (st : List Ob) : f__law_whole [.int i] st = .ok (.bl true) st := whole_eq rfl
abbrev tS (a n : D) (g : List D) (r4 r5 r6 r7 r8 r9 r10 r11 r12 r13 : Slot) (st : List Ob) : S := ⟨[.imm a, .imm (.loc 0), .imm n, .own g, r4, r5, r6, r7, r8, r9, r10, r11, r12, r13, .emp, .emp, .emp], st⟩
theorem t_noX {a n : D} {g : List D} {r4 r5 r6 r7 r8 r9 r10 r11 r12 r13 : Slot} {st : List Ob} (h4 : nx r4) (h5 : nx r5) (h6 : nx r6) (h7 : nx r7) (h8 : nx r8) (h9 : nx r9) (h10 : nx r10) (h11 : nx r11) (h12 : nx r12) (h13 : nx r13) : noX (tS a n g r4 r5 r6 r7 r8 r9 r10 r11 r12 r13 st) = true := nx_all fun x hx => by
  simp only [List.mem_cons, List.not_mem_nil, or_false] at hx
  rcases hx with rfl | rfl | rfl | rfl | rfl | rfl | rfl | rfl | rfl | rfl | rfl | rfl | rfl | rfl | rfl | rfl | rfl <;> first | assumption | trivial
section
variable {fpen fd fs fk fp fq ft fw fc fi : Fn} {a b n x y z w c each two told G1 G2 tw : D} {g l lx ds es due : List D} {r4 r5 r6 r7 r8 r9 r10 r11 r12 r13 : Slot} {st st1 st2 st3 : List Ob} {M : MA} {rg : D → Option (List D)}
theorem l1 (e : fpen [a] [] = .ok (.loc 0) st) : mSet 1 (mCall fpen (mCons (mVar 0) mNil)) ⟨slots 17 [a], []⟩ = .ok .nx ⟨[.imm a, .imm (.loc 0), .emp, .emp, .emp, .emp, .emp, .emp, .emp, .emp, .emp, .emp, .emp, .emp, .emp, .emp, .emp], st⟩ := by
  simp [mSet, mCall, mCons, mVar, mNil, bnd, slots, DL.ret, e, outR, S.put]
theorem l2 (e : fd [.loc 0, .int 5] st = .ok n st1) : mSet 2 (mCall fd (mCons (mVar 1) (mCons (mC (.int 5)) mNil))) ⟨[.imm a, .imm (.loc 0), .emp, .emp, .emp, .emp, .emp, .emp, .emp, .emp, .emp, .emp, .emp, .emp, .emp, .emp, .emp], st⟩ = .ok .nx ⟨[.imm a, .imm (.loc 0), .imm n, .emp, .emp, .emp, .emp, .emp, .emp, .emp, .emp, .emp, .emp, .emp, .emp, .emp, .emp], st1⟩ := by
  simp [mSet, mCall, mCons, mVar, mNil, mC, bnd, DL.ret, e, outR, S.put]
theorem l3 : mOwn 3 (mLst mNil) ⟨[.imm a, .imm (.loc 0), .imm n, .emp, .emp, .emp, .emp, .emp, .emp, .emp, .emp, .emp, .emp, .emp, .emp, .emp, .emp], st⟩ = .ok .nx (hS a n [] .emp .emp .emp .emp .emp st) := by
  simp [mOwn, mLst, mNil, bnd, DL.ret, few, S.put]
theorem l5 : mSet 9 (mIxN 3 (mC (.int 0))) (hS a n [G1, G2] r4 r5 r6 r7 r8 st) = .ok .nx (tS a n [G1, G2] r4 r5 r6 r7 r8 (.imm G1) .emp .emp .emp .emp st) := by
  have e : ixD (.lst [G1, G2]) (.int 0) = some G1 := rfl
  simp [mSet, mIxN, mIxV, mC, cur, bnd, DL.ret, e, lift, S.put]
theorem l6 (hr : rg n = some l) (e : fs [.loc 0, .lst l] st = .ok (.lst lx) st1) : mSet 10 (mUn fTuple (mCall fs (mCons (mVar 1) (mCons (mFz (mUnF rg (mVar 2))) mNil)))) (tS a n g r4 r5 r6 r7 r8 r9 .emp .emp .emp .emp st) = .ok .nx (tS a n g r4 r5 r6 r7 r8 r9 (.imm (.tup lx)) .emp .emp .emp st1) := by
  simp [mSet, mUn, mCall, mCons, mVar, mFz, mUnF, mNil, bnd, hr, DL.ret, e, outR, fTuple, itD, lift, S.put]
theorem l7 (e1 : fk [n, each, c] st = .ok x st) (e2 : fp [.loc 0, .lst [G2, x, G2]] st = .ok two st1) : mSet 11 (mCall fp (mCons (mVar 1) (mCons (mFz (mLst (mCons (mIxN 3 (mC (.int 1))) (mCons (mCall fk (mCons (mVar 2) (mCons (mVar 9) (mCons (mVar 10) mNil)))) (mCons (mIxN 3 (mC (.int 1))) mNil))))) mNil))) (tS a n [G1, G2] r4 r5 r6 r7 r8 (.imm each) (.imm c) .emp .emp .emp st) = .ok .nx (tS a n [G1, G2] r4 r5 r6 r7 r8 (.imm each) (.imm c) (.imm two) .emp .emp st1) := by
  have e : ixD (.lst [G1, G2]) (.int 1) = some G2 := rfl
  simp [mSet, mCall, mCons, mVar, mFz, mLst, mIxN, mIxV, mC, cur, bnd, DL.ret, e, lift, e1, outR, mNil, few, e2, S.put]
theorem l8 (e : M (tS a n g r4 r5 r6 r7 r8 (.imm each) (.imm c) (.imm two) .emp .emp st) = .ok due (tS a n g r4 r5 r6 r7 r8 (.imm each) (.imm c) (.imm two) .emp .emp st)) : mOwn 12 M (tS a n g r4 r5 r6 r7 r8 (.imm each) (.imm c) (.imm two) .emp .emp st) = .ok .nx (tS a n g r4 r5 r6 r7 r8 (.imm each) (.imm c) (.imm two) (.own due) .emp st) := by
  simp [mOwn, bnd, e, S.put]
theorem l9 (e : fq [each, two] st = .ok told st1) : mSet 13 (mCall fq (mCons (mVar 9) (mCons (mVar 11) mNil))) (tS a n g r4 r5 r6 r7 r8 (.imm each) (.imm c) (.imm two) (.own due) .emp st) = .ok .nx (tS a n g r4 r5 r6 r7 r8 (.imm each) (.imm c) (.imm two) (.own due) (.imm told) st1) := by
  simp [mSet, mCall, mCons, mVar, mNil, bnd, DL.ret, e, outR, S.put]
theorem l10 {u v : Bool} (e1 : mIf (mBl (mNeV 12 (mFz (mLst mNil)))) (mIxN 12 (mC (.int 0))) (mC .non) (tS a n g r4 r5 r6 r7 r8 (.imm each) (.imm c) (.imm two) (.own due) (.imm told) st) = .ok x (tS a n g r4 r5 r6 r7 r8 (.imm each) (.imm c) (.imm two) (.own due) (.imm told) st)) (e2 : fNe told x = some (.bl false)) (e3 : fIsN told .non = some (.bl u)) (e4 : fq [two, each] st = .ok y st1) (e5 : fIsN y .non = some (.bl v)) (e6 : fNe (.bl u) (.bl v) = some (.bl false)) :
    mIfS (mOrT (mBl (mNeV 13 (mIf (mBl (mNeV 12 (mFz (mLst mNil)))) (mIxN 12 (mC (.int 0))) (mC .non)))) (mBl (mBin fNe (mBin fIsN (mVar 13) (mC .non)) (mBin fIsN (mCall fq (mCons (mVar 11) (mCons (mVar 9) mNil))) (mC .non))))) (mRet (mC (.bl false))) mPass (tS a n g r4 r5 r6 r7 r8 (.imm each) (.imm c) (.imm two) (.own due) (.imm told) st) = .ok .nx (tS a n g r4 r5 r6 r7 r8 (.imm each) (.imm c) (.imm two) (.own due) (.imm told) st1) := by
  generalize mIf (mBl (mNeV 12 (mFz (mLst mNil)))) (mIxN 12 (mC (.int 0))) (mC .non) = M at e1 ⊢
  simp [mIfS, mOrT, mBl, mNeV, cur, bnd, e1, e2, lift, DL.ret, optB, isBl, mBin, mVar, mC, e3, mCall, mCons, mNil, e4, outR, e5, e6, mPass]
theorem l10a {a' : D} {y' : D} (h : fNe (.lst due) (.lst []) = some (.bl true)) (h2 : ixD (.lst due) (.int 0) = some x) : mIf (mBl (mNeV 12 (mFz (mLst mNil)))) (mIxN 12 (mC (.int 0))) (mC .non) (tS a n g r4 r5 r6 r7 r8 r9 r10 r11 (.own due) r13 st) = .ok x (tS a n g r4 r5 r6 r7 r8 r9 r10 r11 (.own due) r13 st) := by
  simp [mIf, mBl, mNeV, mFz, mLst, mNil, bnd, DL.ret, cur, few, lift, h, optB, isBl, mIxN, mIxV, mC, h2]
theorem l10b (h : fNe (.lst due) (.lst []) = some (.bl false)) : mIf (mBl (mNeV 12 (mFz (mLst mNil)))) (mIxN 12 (mC (.int 0))) (mC .non) (tS a n g r4 r5 r6 r7 r8 r9 r10 r11 (.own due) r13 st) = .ok .non (tS a n g r4 r5 r6 r7 r8 r9 r10 r11 (.own due) r13 st) := by
  simp [mIf, mBl, mNeV, mFz, mLst, mNil, bnd, DL.ret, cur, few, lift, h, optB, isBl, mIxN, mIxV, mC]
theorem l11 {u : Bool} (e : fIsN told .non = some (.bl u)) : mIfS (mBl (mBin fIsN (mVar 13) (mC .non))) (mRet (mC (.bl true))) mPass (tS a n g r4 r5 r6 r7 r8 r9 r10 r11 r12 (.imm told) st) = .ok (if u = true then .rt (.bl true) else .nx) (tS a n g r4 r5 r6 r7 r8 r9 r10 r11 r12 (.imm told) st) := by
  cases u <;> simp [mIfS, mBl, mBin, mVar, mC, bnd, DL.ret, e, lift, optB, isBl, mPass, mRet]
theorem l12 (e1 : fIsi "tuple" told = some (.bl true)) (e : M (tS a n g r4 r5 r6 r7 r8 r9 r10 r11 r12 (.imm told) st) = .ok l (tS a n g r4 r5 r6 r7 .emp r9 r10 r11 r12 (.imm told) st)) (e2 : fAll (.lst l) = some (.bl true)) : mIfS (mOrT (mNotT (mTru (mUn (fIsi "tuple") (mLook 13)))) (mNotT (mTru (mUn fAll (mFz M))))) (mRet (mC (.bl false))) mPass (tS a n g r4 r5 r6 r7 r8 r9 r10 r11 r12 (.imm told) st) = .ok .nx (tS a n g r4 r5 r6 r7 .emp r9 r10 r11 r12 (.imm told) st) := by
  simp [mIfS, mOrT, mNotT, mTru, mUn, mLook, cur, bnd, e1, lift, DL.ret, tru, optB, mFz, e, e2, mPass]
theorem l13 {s s' : S} (e : M s = .ok l s') (e2 : fAll (.lst l) = some (.bl true)) : mRet (mUn fAll (mFz M)) s = .ok (.rt (.bl true)) s' := by
  simp [mRet, mUn, mFz, bnd, e, DL.ret, e2, lift]
theorem in_gen {s : S} {p u v w : D} {k : Bool} {r1 r2 r3 : Slot} (e1 : fc [told, p] st = .ok u st) (e2 : fi [told] st = .ok v st) (e3 : fc [u, v] st = .ok w st) (e4 : fInQ false w two = some (.bl k)) : mInV false (mCall fc (mCons (mCall fc (mCons (mVar 13) (mCons (mVar 16) mNil))) (mCons (mCall fi (mCons (mVar 13) mNil)) mNil))) 11 ((tS a n g r4 r5 r6 r7 r8 r9 r10 (.imm two) r12 (.imm told) st).put 16 (.imm p)) = .ok (.bl k) ((tS a n g r4 r5 r6 r7 r8 r9 r10 (.imm two) r12 (.imm told) st).put 16 (.imm p)) := by
  simp [mInV, mCall, mCons, mVar, mNil, bnd, S.put, DL.ret, e1, e2, e3, outR, cur, e4, lift]
theorem eq_el {x y : D} {k : Bool} (e1 : fk [n, each, x] st = .ok y st) (e2 : fEq y two = some (.bl k)) : mBl (mBin fEq (mCall fk (mCons (mVar 2) (mCons (mVar 9) (mCons (mVar 15) mNil)))) (mVar 11)) ((tS a n g r4 r5 r6 r7 r8 (.imm each) r10 (.imm two) r12 r13 st).put 15 (.imm x)) = .ok k ((tS a n g r4 r5 r6 r7 r8 (.imm each) r10 (.imm two) r12 r13 st).put 15 (.imm x)) := by
  simp [mBl, mBin, mCall, mCons, mVar, mNil, bnd, S.put, DL.ret, e1, outR, e2, lift, optB, isBl]
theorem wh_el {x : D} (e1 : fw [x] st = .ok (.bl true) st) : mCall fw (mCons (mVar 8) mNil) ((tS a n g r4 r5 r6 r7 .emp r9 r10 r11 r12 r13 st).put 8 (.imm x)) = .ok (.bl true) ((tS a n g r4 r5 r6 r7 .emp r9 r10 r11 r12 r13 st).put 8 (.imm x)) := by
  simp [mCall, mCons, mVar, mNil, bnd, S.put, DL.ret, e1, outR]
end
/-- a comprehension whose own name's slot held something -/
theorem lc_mapW {i : Nat} {it : MA} {m : ME} {f : D → D} {s0 s s1 : S} {ds : List D} (hit : it s0 = .ok ds s) (hx0 : noX s = true) (hw : wipeS s [i] = s1) (he : s1.sl[i]? = some .emp) (hx : noX s1 = true) (h : ∀ d ∈ ds, m (s1.put i (.imm d)) = .ok (f d) (s1.put i (.imm d))) (hf : few ds.length) : mLc it (gNm i) mYes m [i] s0 = .ok (ds.map f) s1 := by
  unfold mLc
  rw [bnd_of hit]
  simp only [hx0, if_true, hw]
  rw [lcs_map he hx ds [] h (by simpa using hf)]
  simp
theorem all_true (ds : List D) : fAll (.lst (ds.map fun _ => .bl true)) = some (.bl true) := by
  have e := bls_map (fun _ => true) ds
  simp only [fAll, e, Option.map_some]
  congr 2
  rw [List.all_map]
  simp
theorem neT_tp (a b : List Int) : fNe (tp a) (tp b) = some (.bl (!decide (a = b))) := neT_ints a b
end K58

namespace K58
open PySem L2 DL LC
theorem head_find {α : Type} (f : α → Bool) : ∀ l : List α, (l.filter f).head? = l.find? f
  | [] => rfl
  | a :: l => by
    cases h : f a with
    | true => simp [List.filter_cons, List.find?_cons, h]
    | false => simp only [List.filter_cons, h, Bool.false_eq_true, if_false, List.find?_cons]; exact head_find f l
theorem find_any {α : Type} (f : α → Bool) (l : List α) : (l.find? f).isSome = l.any f := by
  induction l with
  | nil => rfl
  | cons a l ih =>
    cases h : f a with
    | true => simp [h]
    | false => simpa [h] using ih
theorem law_pure (ns : List Int) (h : ns.length ≤ 63) : ∃ st, f_law [.kl (ns.map .int)] [] = .ok (.bl true) st := by
  have e0 := pen_eq ns h
  have p0 : IsPen 0 [.dct (penL ns 0 0)] := ⟨ns, 0, 0, [], rfl, by omega, by omega, by omega, by omega⟩
  obtain ⟨ni, st1, e1, n0, n1, p1⟩ := draw_spec (m := 5) p0 (by omega) (by omega) (by omega)
  obtain ⟨n, rfl⟩ : ∃ n : Nat, ni = n := ⟨ni.toNat, by omega⟩
  have hn : n < 5 := by omega
  obtain ⟨R1, R2, r4, r5, r6, r7, r8, st2, e2, hR1, hR2, h4, h5, h6, h7, h8, p2⟩ := loop_spec (a := .kl (ns.map .int)) hn p1 (by omega)
  have rn := rgD_n (n := n) (by omega)
  have ln := rgI_len n
  obtain ⟨c, st3, e3, pc, p3⟩ := shuf_spec (ns := rgI n) p2 (by omega) (by omega)
  have pc : Pm n c := pc
  have nA : Nm n (grp n R1) := grp_nm
  have zA := grp_ne hR1
  generalize hA : grp n R1 = A at e2 nA zA
  have e4 := carried_eq hn nA pc st3
  obtain ⟨two, st4, e5, m5, p4⟩ := pick_spec (ds := [.tup ((grp n R2).map tp), .tup ((carr n A c).map tp), .tup ((grp n R2).map tp)]) p3 (by omega) (by simp) (by simp)
  obtain ⟨B, rfl, nB, zB⟩ : ∃ B, two = .tup (B.map tp) ∧ Nm n B ∧ B ≠ [] := by
    simp only [List.mem_cons, List.not_mem_nil, or_false] at m5
    rcases m5 with rfl | rfl | rfl
    · exact ⟨_, rfl, grp_nm, grp_ne hR2⟩
    · exact ⟨_, rfl, nm_filter _, carr_ne hn nA zA pc⟩
    · exact ⟨_, rfl, grp_nm, grp_ne hR2⟩
  have lP := permsL_len hn
  have tE := turns_eq hn st4
  have e6 := lc_pick (i := 15) (it := mIt (mCall f__law_turns (mCons (mVar 2) mNil))) (t := mBl (mBin fEq (mCall f__law_carried (mCons (mVar 2) (mCons (mVar 9) (mCons (mVar 15) mNil)))) (mVar 11))) (P := fun d => test n A B (itsI d)) (s0 := tS (.kl (ns.map .int)) (.int n) [.tup (A.map tp), .tup ((grp n R2).map tp)] r4 r5 r6 r7 r8 (.imm (.tup (A.map tp))) (.imm (tp c)) (.imm (.tup (B.map tp))) .emp .emp st4) (s := tS (.kl (ns.map .int)) (.int n) [.tup (A.map tp), .tup ((grp n R2).map tp)] r4 r5 r6 r7 r8 (.imm (.tup (A.map tp))) (.imm (tp c)) (.imm (.tup (B.map tp))) .emp .emp st4) (ds := (permsL n).map tp) (by
    have gen : ∀ (f : Fn) (L : List D), f [.int n] st4 = .ok (.lst L) st4 → mIt (mCall f (mCons (mVar 2) mNil)) (tS (.kl (ns.map .int)) (.int n) [.tup (A.map tp), .tup ((grp n R2).map tp)] r4 r5 r6 r7 r8 (.imm (.tup (A.map tp))) (.imm (tp c)) (.imm (.tup (B.map tp))) .emp .emp st4) = .ok L (tS (.kl (ns.map .int)) (.int n) [.tup (A.map tp), .tup ((grp n R2).map tp)] r4 r5 r6 r7 r8 (.imm (.tup (A.map tp))) (.imm (tp c)) (.imm (.tup (B.map tp))) .emp .emp st4) := fun f L e => by simp [mIt, mCall, mCons, mVar, mNil, bnd, DL.ret, e, outR, itD]
    exact gen _ _ tE) rfl (t_noX h4 h5 h6 h7 h8 trivial trivial trivial trivial trivial) (fun d hd => by
    obtain ⟨q, hq, rfl⟩ := List.mem_map.mp hd
    have pq := mem_permsL.mp hq
    have k1 := carried_eq hn nA pq st4
    have k2 := eq_tps (carr n A q) B
    rw [carr_test hn nA nB pq] at k2
    rw [ints_tp]
    exact eq_el k1 k2) (by unfold few; simp; omega)
  rw [filter_tp (f := test n A B)] at e6
  have e7 := conj_eq hn nA nB zA st4
  have e8 := conj_eq hn nB nA zB (st4 ++ [.dtt (kvF B)])
  have hf := head_find (test n A B) (permsL n)
  have pdD : ∀ d ∈ ((permsL n).filter (test n A B)).map tp, (DL.pd 49 d).isSome = true := fun d hd => by
    obtain ⟨q, _, rfl⟩ := List.mem_map.mp hd
    rw [pd_tp]; rfl
  have ne := ne_nil (pds_some.mpr pdD)
  have sym : ((permsL n).find? (test n A B)).isSome = ((permsL n).find? (test n B A)).isSome := by rw [find_any, find_any, test_back hn nA nB]
  have bF : ∀ b : Bool, fNe (.bl b) (.bl b) = some (.bl false) := fun b => by cases b <;> rfl
  have isn : ∀ o : Option (List Int), fIsN (match o with | some c => tp c | none => .non) .non = some (.bl (!o.isSome)) := fun o => by cases o <;> rfl
  have i1 := isn ((permsL n).find? (test n A B))
  have i2 := isn ((permsL n).find? (test n B A))
  rw [← sym] at i2
  unfold f_law fnM m_law
  rw [seq_nx (l1 e0), seq_nx (l2 e1), seq_nx l3, seq_nx e2, seq_nx l5, seq_nx (l6 rn e3), seq_nx (l7 e4 e5), seq_nx (l8 e6), seq_nx (l9 e7)]
  cases hc : (permsL n).find? (test n A B) with
  | none =>
    rw [hc] at hf i1 i2 e7
    have z : (permsL n).filter (test n A B) = [] := by
      cases hh : (permsL n).filter (test n A B) with
      | nil => rfl
      | cons q l => rw [hh] at hf; cases hf
    rw [z] at ne ⊢
    refine ⟨st4 ++ [.dtt (kvF B)] ++ [.dtt (kvF A)], ?_⟩
    rw [seq_nx (l10 (l10b ne) rfl i1 e8 i2 (bF _)), seq_rt (l11 i1)]
    rfl
  | some q =>
    rw [hc] at hf i1 i2 e7
    obtain ⟨l, z⟩ : ∃ l, (permsL n).filter (test n A B) = q :: l := by
      cases hh : (permsL n).filter (test n A B) with
      | nil => rw [hh] at hf; cases hf
      | cons q' l => rw [hh] at hf; cases hf; exact ⟨l, rfl⟩
    have qm : q ∈ (permsL n).filter (test n A B) := by rw [z]; exact List.mem_cons_self
    obtain ⟨qP, qt⟩ := List.mem_filter.mp qm
    have pq := mem_permsL.mp qP
    have lq := pq.len
    unfold test at qt
    rw [Bool.and_eq_true, decide_eq_true_eq, List.all_eq_true] at qt
    rw [z] at ne ⊢
    have x0 : ixD (.lst ((q :: l).map tp)) (.int 0) = some (tp q) := by simp [ixD, atI, ixN]
    have n1 : fNe (tp q) (tp q) = some (.bl false) := by rw [neT_tp]; simp
    have t1 : fIsi "tuple" (tp q) = some (.bl true) := by simp [fIsi, tyD, subT]
    have w := lc_mapW (i := 8) (it := mIt (mVar 13)) (m := mCall f__law_whole (mCons (mVar 8) mNil)) (f := fun _ => .bl true) (s0 := tS (.kl (ns.map .int)) (.int n) [.tup (A.map tp), .tup ((grp n R2).map tp)] r4 r5 r6 r7 r8 (.imm (.tup (A.map tp))) (.imm (tp c)) (.imm (.tup (B.map tp))) (.own ((q :: l).map tp)) (.imm (tp q)) (st4 ++ [.dtt (kvF B)] ++ [.dtt (kvF A)])) (s := tS (.kl (ns.map .int)) (.int n) [.tup (A.map tp), .tup ((grp n R2).map tp)] r4 r5 r6 r7 r8 (.imm (.tup (A.map tp))) (.imm (tp c)) (.imm (.tup (B.map tp))) (.own ((q :: l).map tp)) (.imm (tp q)) (st4 ++ [.dtt (kvF B)] ++ [.dtt (kvF A)])) (s1 := tS (.kl (ns.map .int)) (.int n) [.tup (A.map tp), .tup ((grp n R2).map tp)] r4 r5 r6 r7 .emp (.imm (.tup (A.map tp))) (.imm (tp c)) (.imm (.tup (B.map tp))) (.own ((q :: l).map tp)) (.imm (tp q)) (st4 ++ [.dtt (kvF B)] ++ [.dtt (kvF A)])) (ds := q.map .int) (by simp [mIt, mVar, bnd, itD]) (t_noX h4 h5 h6 h7 h8 trivial trivial trivial trivial trivial) rfl rfl (t_noX h4 h5 h6 h7 trivial trivial trivial trivial trivial trivial) (fun d hd => by
      obtain ⟨i, _, rfl⟩ := List.mem_map.mp hd
      exact wh_el (whole_int i _)) (by unfold few; simp; omega)
    have lA := nm_len hn nA
    have fin := lc_map (i := 16) (it := mIt (mVar 9)) (m := mInV false (mCall f_compose (mCons (mCall f_compose (mCons (mVar 13) (mCons (mVar 16) mNil))) (mCons (mCall f_inverse (mCons (mVar 13) mNil)) mNil))) 11) (f := fun _ => .bl true) (s0 := tS (.kl (ns.map .int)) (.int n) [.tup (A.map tp), .tup ((grp n R2).map tp)] r4 r5 r6 r7 .emp (.imm (.tup (A.map tp))) (.imm (tp c)) (.imm (.tup (B.map tp))) (.own ((q :: l).map tp)) (.imm (tp q)) (st4 ++ [.dtt (kvF B)] ++ [.dtt (kvF A)])) (s := tS (.kl (ns.map .int)) (.int n) [.tup (A.map tp), .tup ((grp n R2).map tp)] r4 r5 r6 r7 .emp (.imm (.tup (A.map tp))) (.imm (tp c)) (.imm (.tup (B.map tp))) (.own ((q :: l).map tp)) (.imm (tp q)) (st4 ++ [.dtt (kvF B)] ++ [.dtt (kvF A)])) (ds := A.map tp) (by simp [mIt, mVar, bnd, itD]) rfl (t_noX h4 h5 h6 h7 trivial trivial trivial trivial trivial trivial) (fun d hd => by
      obtain ⟨p, hp, rfl⟩ := List.mem_map.mp hd
      have pp := nA.pm hp
      have k1 := comp_ok (st := st4 ++ [.dtt (kvF B)] ++ [.dtt (kvF A)]) (n := n) (by omega) pq pp
      have k2 := inv_ok (st := st4 ++ [.dtt (kvF B)] ++ [.dtt (kvF A)]) (n := n) (by omega) pq
      have k3 := comp_ok (st := st4 ++ [.dtt (kvF B)] ++ [.dtt (kvF A)]) (n := n) (by omega) (act_pm pq pp) (inv_pm hn pq)
      have k4 := fInQ_tpT false (cj n q p) B
      rw [if_neg (by decide), qt.2 p hp] at k4
      exact in_gen (s := ⟨[], []⟩) (r1 := .emp) (r2 := .emp) (r3 := .emp) k1 k2 k3 k4) (by unfold few; simp; omega)
    refine ⟨st4 ++ [.dtt (kvF B)] ++ [.dtt (kvF A)], ?_⟩
    rw [seq_nx (l10 (l10a (a' := .non) (y' := .non) ne x0) n1 i1 e8 i2 (bF _)), seq_nx (l11 i1), seq_nx (l12 t1 w (all_true _)), l13 fin (all_true _)]
    rfl
end K58

namespace K58
open PySem PySem.Spec PyProof.Rows L2 DL
noncomputable section
def dd (x : Str) (i : Nat) : He.DefD := ⟨(x, none), x, x, defArgs (top i), defBody (top i), defScope (top i), [], []⟩
def fn : List He.DefD := [dd "checked" 4, dd "sized" 5, dd "after" 6, dd "compose" 8, dd "back" 7, dd "inverse" 9, dd "_law_whole" 21, dd "orders" 10, dd "conjugate" 13, dd "_law_slots" 19, dd "_law_turns" 20, dd "_law_carried" 22, dd "_law_draw" 16, dd "_law_pick" 17, dd "_law_shuffled" 18, dd "listed" 11, dd "generated" 12, dd "_law_pen" 15, dd "law" 23]
def fa : List He.Fa := [.glo "checked", .glo "sized", .glo "after", .glo "compose", .glo "back", .glo "inverse", .glo "_law_whole", .glo "orders", .glo "conjugate", .glo "_law_slots", .glo "_law_turns", .glo "_law_carried", .glo "_law_draw", .glo "_law_pick", .glo "_law_shuffled", .glo "listed", .glo "generated", .glo "_law_pen", .glo "law", .glo "BadRenumbering", .free "int", .free "sorted", .free "len", .free "list", .free "range", .free "isinstance", .free "bool", .free "all", .free "tuple", .free "enumerate", .free "abs", .free "super"]
def fb : List (PySem.W.Frag → Bool) := []
def xs : List HK.XD := [⟨"BadRenumbering", "numbers", "BadRenumbering.__init__", "no renumbering of this size", ⟨⟨6, 17, 6, 21⟩, ⟨6, 23, 6, 30⟩, ⟨7, 8, 7, 13⟩, ⟨7, 8, 7, 15⟩, ⟨7, 8, 7, 24⟩, ⟨7, 25, 7, 54⟩, ⟨7, 8, 7, 55⟩, ⟨8, 8, 8, 12⟩, ⟨8, 8, 8, 20⟩, ⟨8, 23, 8, 30⟩, ⟨8, 8, 8, 30⟩⟩, ⟨7, 8, 7, 55⟩⟩]
abbrev R : PySem.W.OpenRow := PySem.W.OpenLaw.row PySem.Challenge.rw_everyname_k58_groups_made_conjugate
abbrev hk : PySem.W.Hook := HK.hookX 5 (PySem.Challenge.rw_everyname_k58_groups_made_conjugate).prog.main.file fa fb fn xs
def ob (s : PySem.W.SharedT) : HK.AlX := HK.obsXG 5 (PySem.Challenge.rw_everyname_k58_groups_made_conjugate).prog.main.file fa fb fn xs (HandSHeadRun.getT s)
theorem ob_eq (s : PySem.W.SharedT) : ob s = hk.obs s.abs := HK.obsXG_eq (HandSHeadRun.getT_eq s)
def names : List PySem.Str := ["EverynameError", "BadRenumbering", "checked", "sized", "after", "back", "compose", "inverse", "orders", "listed", "generated", "conjugate", "_law_pen", "_law_draw", "_law_pick", "_law_shuffled", "_law_slots", "_law_turns", "_law_whole", "_law_carried"]
theorem run (w : World) : HandSHeadRun.RunEq R (PySem.W.view R.prog [23]) hk ob 4000 names w := by
  intro os
  kernel_rfl
theorem facts {w : World} {K : PySem.W.Frag} {h : Heap} {mg : Str → Option Value} (base : Heap) (X : K.In h) (G : h.Ns mainGlobals mg) (c : HK.SaysX (PySem.Challenge.rw_everyname_k58_groups_made_conjugate).prog.main.file fa fb fn xs K) : Kn (PySem.Challenge.rw_everyname_k58_groups_made_conjugate).prog w K mg base "law" 11 ["_law_script"] f_law := by
  have n_checked := He.glo_ok X G (c.fact 0 (f := .glo "checked") rfl)
  have n_sized := He.glo_ok X G (c.fact 1 (f := .glo "sized") rfl)
  have n_after := He.glo_ok X G (c.fact 2 (f := .glo "after") rfl)
  have n_compose := He.glo_ok X G (c.fact 3 (f := .glo "compose") rfl)
  have n_back := He.glo_ok X G (c.fact 4 (f := .glo "back") rfl)
  have n_inverse := He.glo_ok X G (c.fact 5 (f := .glo "inverse") rfl)
  have n__law_whole := He.glo_ok X G (c.fact 6 (f := .glo "_law_whole") rfl)
  have n_orders := He.glo_ok X G (c.fact 7 (f := .glo "orders") rfl)
  have n_conjugate := He.glo_ok X G (c.fact 8 (f := .glo "conjugate") rfl)
  have n__law_slots := He.glo_ok X G (c.fact 9 (f := .glo "_law_slots") rfl)
  have n__law_turns := He.glo_ok X G (c.fact 10 (f := .glo "_law_turns") rfl)
  have n__law_carried := He.glo_ok X G (c.fact 11 (f := .glo "_law_carried") rfl)
  have n__law_draw := He.glo_ok X G (c.fact 12 (f := .glo "_law_draw") rfl)
  have n__law_pick := He.glo_ok X G (c.fact 13 (f := .glo "_law_pick") rfl)
  have n__law_shuffled := He.glo_ok X G (c.fact 14 (f := .glo "_law_shuffled") rfl)
  have n_listed := He.glo_ok X G (c.fact 15 (f := .glo "listed") rfl)
  have n_generated := He.glo_ok X G (c.fact 16 (f := .glo "generated") rfl)
  have n__law_pen := He.glo_ok X G (c.fact 17 (f := .glo "_law_pen") rfl)
  have n_law := He.glo_ok X G (c.fact 18 (f := .glo "law") rfl)
  have n_BadRenumbering := He.glo_ok X G (c.fact 19 (f := .glo "BadRenumbering") rfl)
  have g_int := He.free_ok X G (c.fact 20 (f := .free "int") rfl)
  have g_sorted := He.free_ok X G (c.fact 21 (f := .free "sorted") rfl)
  have g_len := He.free_ok X G (c.fact 22 (f := .free "len") rfl)
  have g_list := He.free_ok X G (c.fact 23 (f := .free "list") rfl)
  have g_range := He.free_ok X G (c.fact 24 (f := .free "range") rfl)
  have g_isinstance := He.free_ok X G (c.fact 25 (f := .free "isinstance") rfl)
  have g_bool := He.free_ok X G (c.fact 26 (f := .free "bool") rfl)
  have g_all := He.free_ok X G (c.fact 27 (f := .free "all") rfl)
  have g_tuple := He.free_ok X G (c.fact 28 (f := .free "tuple") rfl)
  have g_enumerate := He.free_ok X G (c.fact 29 (f := .free "enumerate") rfl)
  have g_abs := He.free_ok X G (c.fact 30 (f := .free "abs") rfl)
  have g_super := He.free_ok X G (c.fact 31 (f := .free "super") rfl)
  have y_BadRenumbering := c.xf 0 (d := ⟨"BadRenumbering", "numbers", "BadRenumbering.__init__", "no renumbering of this size", ⟨⟨6, 17, 6, 21⟩, ⟨6, 23, 6, 30⟩, ⟨7, 8, 7, 13⟩, ⟨7, 8, 7, 15⟩, ⟨7, 8, 7, 24⟩, ⟨7, 25, 7, 54⟩, ⟨7, 8, 7, 55⟩, ⟨8, 8, 8, 12⟩, ⟨8, 8, 8, 20⟩, ⟨8, 23, 8, 30⟩, ⟨8, 8, 8, 30⟩⟩, ⟨7, 8, 7, 55⟩⟩) rfl
  have x_BadRenumbering : XF (PySem.Challenge.rw_everyname_k58_groups_made_conjugate).prog K mg "BadRenumbering" "numbers" := ⟨c.xc 0 (d := ⟨"BadRenumbering", "numbers", "BadRenumbering.__init__", "no renumbering of this size", ⟨⟨6, 17, 6, 21⟩, ⟨6, 23, 6, 30⟩, ⟨7, 8, 7, 13⟩, ⟨7, 8, 7, 15⟩, ⟨7, 8, 7, 24⟩, ⟨7, 25, 7, 54⟩, ⟨7, 8, 7, 55⟩, ⟨8, 8, 8, 12⟩, ⟨8, 8, 8, 20⟩, ⟨8, 23, 8, 30⟩, ⟨8, 8, 8, 30⟩⟩, ⟨7, 8, 7, 55⟩⟩) rfl (by decide +kernel) g_super (by kernel_rfl) (by decide +kernel) (fun _ _ _ _ _ _ _ _ => rfl), y_BadRenumbering.1, y_BadRenumbering.2.1, y_BadRenumbering.2.2, trivial⟩
  have c_checked := ok_checked (P := (PySem.Challenge.rw_everyname_k58_groups_made_conjugate).prog) (w := w) (base := base) (c.def_ 0 (d := dd "checked" 4) rfl) n_checked g_int g_sorted g_len g_list g_range g_isinstance g_bool g_all g_tuple n_BadRenumbering x_BadRenumbering
  have c_sized := ok_sized (P := (PySem.Challenge.rw_everyname_k58_groups_made_conjugate).prog) (w := w) (base := base) (c.def_ 1 (d := dd "sized" 5) rfl) n_sized c_checked g_len n_BadRenumbering x_BadRenumbering
  have c_after := ok_after (P := (PySem.Challenge.rw_everyname_k58_groups_made_conjugate).prog) (w := w) (base := base) (c.def_ 2 (d := dd "after" 6) rfl) n_after g_tuple
  have c_compose := ok_compose (P := (PySem.Challenge.rw_everyname_k58_groups_made_conjugate).prog) (w := w) (base := base) (c.def_ 3 (d := dd "compose" 8) rfl) n_compose c_sized c_after c_checked g_len
  have c_back := ok_back (P := (PySem.Challenge.rw_everyname_k58_groups_made_conjugate).prog) (w := w) (base := base) (c.def_ 4 (d := dd "back" 7) rfl) n_back g_tuple g_enumerate g_len
  have c_inverse := ok_inverse (P := (PySem.Challenge.rw_everyname_k58_groups_made_conjugate).prog) (w := w) (base := base) (c.def_ 5 (d := dd "inverse" 9) rfl) n_inverse c_checked c_back
  have c__law_whole := ok__law_whole (P := (PySem.Challenge.rw_everyname_k58_groups_made_conjugate).prog) (w := w) (base := base) (c.def_ 6 (d := dd "_law_whole" 21) rfl) n__law_whole g_isinstance g_bool g_int
  have c_orders := ok_orders (P := (PySem.Challenge.rw_everyname_k58_groups_made_conjugate).prog) (w := w) (base := base) (c.def_ 7 (d := dd "orders" 10) rfl) n_orders g_enumerate
  have c_conjugate := ok_conjugate (P := (PySem.Challenge.rw_everyname_k58_groups_made_conjugate).prog) (w := w) (base := base) (c.def_ 8 (d := dd "conjugate" 13) rfl) n_conjugate c_orders c_after c_back g_len g_tuple g_range g_all
  have c__law_slots := ok__law_slots (P := (PySem.Challenge.rw_everyname_k58_groups_made_conjugate).prog) (w := w) (base := base) (c.def_ 9 (d := dd "_law_slots" 19) rfl) n__law_slots g_range
  have c__law_turns := ok__law_turns (P := (PySem.Challenge.rw_everyname_k58_groups_made_conjugate).prog) (w := w) (base := base) (c.def_ 10 (d := dd "_law_turns" 20) rfl) n__law_turns c__law_slots g_tuple
  have c__law_carried := ok__law_carried (P := (PySem.Challenge.rw_everyname_k58_groups_made_conjugate).prog) (w := w) (base := base) (c.def_ 11 (d := dd "_law_carried" 22) rfl) n__law_carried c__law_turns g_tuple g_range
  have c__law_draw := ok__law_draw (P := (PySem.Challenge.rw_everyname_k58_groups_made_conjugate).prog) (w := w) (base := base) (c.def_ 12 (d := dd "_law_draw" 16) rfl) n__law_draw g_int g_abs g_len
  have c__law_pick := ok__law_pick (P := (PySem.Challenge.rw_everyname_k58_groups_made_conjugate).prog) (w := w) (base := base) (c.def_ 13 (d := dd "_law_pick" 17) rfl) n__law_pick c__law_draw g_len
  have c__law_shuffled := ok__law_shuffled (P := (PySem.Challenge.rw_everyname_k58_groups_made_conjugate).prog) (w := w) (base := base) (c.def_ 14 (d := dd "_law_shuffled" 18) rfl) n__law_shuffled c__law_draw g_len g_list
  have c_listed := ok_listed (P := (PySem.Challenge.rw_everyname_k58_groups_made_conjugate).prog) (w := w) (base := base) (c.def_ 15 (d := dd "listed" 11) rfl) n_listed c_orders g_tuple g_range g_list g_len
  have c_generated := ok_generated (P := (PySem.Challenge.rw_everyname_k58_groups_made_conjugate).prog) (w := w) (base := base) (c.def_ 16 (d := dd "generated" 12) rfl) n_generated c_listed c_after c_sized g_tuple g_range
  have c__law_pen := ok__law_pen (P := (PySem.Challenge.rw_everyname_k58_groups_made_conjugate).prog) (w := w) (base := base) (c.def_ 17 (d := dd "_law_pen" 15) rfl) n__law_pen g_list
  have c_law := ok_law (P := (PySem.Challenge.rw_everyname_k58_groups_made_conjugate).prog) (w := w) (base := base) (c.def_ 18 (d := dd "law" 23) rfl) n_law c_compose c_inverse c__law_whole c_conjugate c__law_turns c__law_carried c__law_pick c__law_shuffled c_generated c__law_draw c__law_pen g_all g_isinstance g_tuple g_list g_range g_len
  exact c_law
end
end K58
open PySem PySem.W PySem.Calls PyProof.Rows
theorem K58.holds (pure : ∀ ns : List Int, ns.length ≤ 63 → ∃ st, K58.f_law [.kl (ns.map DL.D.int)] [] = .ok (.bl true) st) : PySem.Challenge.rw_everyname_k58_groups_made_conjugate.Holds := by
  w_on; o_law
  refine HandSHeadRun.head_any (r := OpenLaw.row PySem.Challenge.rw_everyname_k58_groups_made_conjugate) (q := view (OpenLaw.row PySem.Challenge.rw_everyname_k58_groups_made_conjugate).prog [23]) (H := K58.hk) (ob := K58.ob) (M := 4000) (loose := K58.names) (d := HandSHeadRun.topDef (OpenLaw.row PySem.Challenge.rw_everyname_k58_groups_made_conjugate).prog 23) (kwd := []) K58.ob_eq
    (by kernel_rfl) (fun s => by kernel_rfl) K58.run (by kernel_rfl) (by kernel_rfl) (by kernel_rfl) (by rfl) (by first | assumption | decide +kernel) (by decide +kernel) ⟨rfl, rfl, rfl, rfl, rfl, by decide +kernel⟩ ?hw ?hc
  case hw => w_witness2
  case hc =>
    refine L2.walk_ofE (l := PySem.Challenge.rw_everyname_k58_groups_made_conjugate) (n := 63) (k := 11) (x := "_law_script") (CX := fun _ _ _ _ _ _ => False) rfl (by decide) (by kernel_rfl) ⟨rfl, by decide, by decide⟩ ?F (fun _ _ _ _ z => z)
    intro w mg fa h Y G hmg0
    obtain ⟨K, KX, c⟩ := Y
    have hmg : mg ("law" : PySem.Str) = some (.ref fa) := by
      have e : (HandSHeadRun.topDef (OpenLaw.row PySem.Challenge.rw_everyname_k58_groups_made_conjugate).prog 23).name = ("law" : PySem.Str) := by kernel_rfl
      rw [← e]
      exact hmg0
    have kn := fun base : Heap => K58.facts (w := w) base KX G c
    obtain ⟨fd, FL⟩ := c.def_ 18 (d := K58.dd "law" 23) rfl
    have bA := fun (s : Shared) (us : List Value) (hl : us.length = ["_law_script"].length) => L2.FunD.bindsA (ps := ["_law_script"]) FL (fun _ _ _ _ _ _ us hl => match us, hl with | [_], _ => rfl) s us hl
    refine ⟨K, fd, fun vs H Q _ => DL.spF K 1 K58.f_law vs H Q fun _ _ _ => False, KX, fun s u => bA s [u] rfl, fun H a ns hl _ hS => DL.law_sp hS (pure ns hl), fun base _ _ => ?_⟩
    exact DL.law_fd (kn base) FL hmg (He.glo_ok KX G (c.fact 18 (f := .glo "law") rfl)) 

theorem PySem.Challenge.cw_everyname_k58_groups_made_conjugate_holds : PySem.Challenge.rw_everyname_k58_groups_made_conjugate.Holds :=
  K58.holds K58.law_pure
