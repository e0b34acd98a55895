import PyProof.Rows.All
import Wide.All
import OpenK.AllK
import Wide.FinOn
import HandS.ForMost
import HandS.ForExc
import HandS.CallSlots
import HandS.TryMany
import HandS.Defaults
import HandS.Wide
import HandS.Flow
import HandS.IsInst
import HandS.ExcIs
import HandS.ExcField
import HandS.HeadHook2
import HandS.Conv
import HandS.Lambda
import HandS.TupAny
import KE.KEqNest
import HandS.ExcCtx
import HandS.SortInts
import HandS.TupMul
import KE.KExcSuper
import KE.DataEq
import HandS.NoneIn
import HandS.Dict
import KE.GoesMore
import KE.GoesEnum
import HandS.Head0
import HandS.Head1
import HandS.Head2
import HandS.HeadEnd
import HandS.HeadHook1
import HandS.Ends
import KE.KDictDisplayH
import HandS.TupLen
import HandS.DictComp
import KE.GoesZip
import HandS.SetFor
import HandS.Strs
import HandS.Zip
import HandS.Style
import HandS.HeadNt
import HandS.ClsMeth
import HandS.Property
import HandS.Star
import HandS.Exc
import KE.KExcPX
import HandS.Small
import KE.KTryMore
import HandS.HotCalls
import HandS.HeadWalk
import HandS.HeadHook3
import PySem.Challenge.RW_everyname_k15_sizes_refuse_what_is_wrong
set_option Elab.async false
set_option linter.all false
set_option maxRecDepth 100000
set_option maxHeartbeats 0
namespace DL
open PySem PySem.Spec L2
inductive D where
  | non | bl (b : Bool) | int (i : Int) | str (x : Str) | tup (xs : List D) | lst (xs : List D) | kl (xs : List D) | nod | loc (n : Nat) | ins (c : Str) (fs : List (Str × D)) | kt (xs : List D) | cla (c : Str)
/-- a raised error: its class, its fields -/
structure Exc where
  c : Str
  fs : List (Str × D)
inductive Slot where
  | emp | imm (d : D) | own (ds : List D) | xn (x : Exc)
/-- a lambda as it is written -/
structure Lam where
  q : Str
  ps : Arguments
  body : Expr
  sc : Scope
/-- a cell of the store; fun: a lambda over the cells cl; clo: one over cells that stay as they are; hid: one that is not looked at -/
inductive Ob where
  | dct (kvs : List (Key × D)) | dtt (kvs : List (List Key × D)) | ins (c : Str) (fs : List (Str × D)) | lst (ds : List D)
  | fun (l : Lam) (cl : List (Str × Addr)) | clo (l : Lam) (fs : List (Str × D)) | hid
structure S where
  sl : List Slot
  st : List Ob
inductive R (α : Type) where
  | ok (a : α) (s : S) | exc (x : Exc) (s : S) | stuck
def bnd {α β : Type} (m : S → R α) (k : α → S → R β) : S → R β := fun s => match m s with
  | .ok a s' => k a s'
  | .exc x s' => .exc x s'
  | .stuck => .stuck
def ret {α : Type} (a : α) : S → R α := fun s => .ok a s
def stk {α : Type} : S → R α := fun _ => .stuck
inductive Fl where
  | nx | bk | ct | rt (d : D)
abbrev ME := S → R D
abbrev MT := S → R Bool
abbrev MA := S → R (List D)
abbrev MS := S → R Fl
structure Gh where
  F : Hp
  ad : List Addr
structure Gh.le (G G' : Gh) : Prop where
  f : ∀ a o, G.F a = some o → G'.F a = some o
  d : ∀ (n : Nat) a, G.ad[n]? = some a → G'.ad[n]? = some a
theorem Gh.le.refl (G : Gh) : G.le G := ⟨fun _ _ h => h, fun _ _ h => h⟩
theorem Gh.le.trans {A B C : Gh} (x : A.le B) (y : B.le C) : A.le C := ⟨fun a o h => y.f a o (x.f a o h), fun n a h => y.d n a (x.d n a h)⟩
mutual
inductive Rep (K : PySem.W.Frag) (G : Gh) : V → D → Prop
  | non : Rep K G .non .non
  | bl (b : Bool) : Rep K G (.bl b) (.bl b)
  | int (i : Int) : Rep K G (.int i) (.int i)
  | str (x : Str) : Rep K G (.str x) (.str x)
  | tup {a : Addr} {vs : List V} {ds : List D} : G.F a = some (.tup vs) → Reps K G vs ds → Rep K G (.ref a) (.tup ds)
  | lst {a : Addr} {vs : List V} {ds : List D} : G.F a = some (.lst vs) → Reps K G vs ds → Rep K G (.ref a) (.lst ds)
  | kl {a : Addr} {vs : List V} {ds : List D} : SqL K G.F a vs → Reps K G vs ds → Rep K G (.ref a) (.kl ds)
  | kt {a : Addr} {vs : List V} {ds : List D} : SqT K G.F a vs → Reps K G vs ds → Rep K G (.ref a) (.kt ds)
  | nod {a : Addr} : G.F a = some (.dK []) → Rep K G (.ref a) .nod
  | loc {n : Nat} {a : Addr} : G.ad[n]? = some a → Rep K G (.ref a) (.loc n)
  | ins {a dx : Addr} {c : Str} {fvs : List (Str × V)} {fs : List (Str × D)} : G.F a = some (.ins (He.ga K c) dx fvs) → RepF K G fvs fs → Rep K G (.ref a) (.ins c fs)
  | cla (c : Str) : Rep K G (.ref (He.ga K c)) (.cla c)
inductive Reps (K : PySem.W.Frag) (G : Gh) : List V → List D → Prop
  | nil : Reps K G [] []
  | cons {v : V} {vs : List V} {d : D} {ds : List D} : Rep K G v d → Reps K G vs ds → Reps K G (v :: vs) (d :: ds)
inductive RepF (K : PySem.W.Frag) (G : Gh) : List (Str × V) → List (Str × D) → Prop
  | nil : RepF K G [] []
  | cons {f : Str} {v : V} {vs : List (Str × V)} {d : D} {ds : List (Str × D)} : Rep K G v d → RepF K G vs ds → RepF K G ((f, v) :: vs) ((f, d) :: ds)
end
section
variable {K : PySem.W.Frag} {G G' : Gh}
theorem sqT_mono {F F' : Hp} {a : Addr} {xs : List V} (e : ∀ a o, F a = some o → F' a = some o) (h : SqT K F a xs) : SqT K F' a xs := by
  rcases h with (h | ⟨o, h⟩) | h
  · exact .inl (.inl (e _ _ h))
  · exact .inl (.inr ⟨o, e _ _ h⟩)
  · exact .inr h
theorem tqT {F F' : Hp} {a : Addr} {xs : List V} (e : ∀ a o, F a = some o → F' a = some o) (h : F a = some (.tup xs)) : SqT K F' a xs := SqT.of (e _ _ h)
theorem sqL_mono {F F' : Hp} {a : Addr} {xs : List V} (e : ∀ a o, F a = some o → F' a = some o) (h : SqL K F a xs) : SqL K F' a xs := by
  rcases h with (h | ⟨o, h⟩) | h
  · exact .inl (.inl (e _ _ h))
  · exact .inl (.inr ⟨o, e _ _ h⟩)
  · exact .inr h
mutual
theorem Rep.mono (e : G.le G') : ∀ {v : V} {d : D}, Rep K G v d → Rep K G' v d
  | _, _, .non => .non
  | _, _, .bl b => .bl b
  | _, _, .int i => .int i
  | _, _, .str x => .str x
  | _, _, .tup h r => .tup (e.f _ _ h) (Reps.mono e r)
  | _, _, .lst h r => .lst (e.f _ _ h) (Reps.mono e r)
  | _, _, .kl h r => .kl (sqL_mono e.f h) (Reps.mono e r)
  | _, _, .kt h r => .kt (sqT_mono e.f h) (Reps.mono e r)
  | _, _, .nod h => .nod (e.f _ _ h)
  | _, _, .loc h => .loc (e.d _ _ h)
  | _, _, .ins h r => .ins (e.f _ _ h) (RepF.mono e r)
  | _, _, .cla c => .cla c
theorem Reps.mono (e : G.le G') : ∀ {v : List V} {d : List D}, Reps K G v d → Reps K G' v d
  | _, _, .nil => .nil
  | _, _, .cons h r => .cons (Rep.mono e h) (Reps.mono e r)
theorem RepF.mono (e : G.le G') : ∀ {v : List (Str × V)} {d : List (Str × D)}, RepF K G v d → RepF K G' v d
  | _, _, .nil => .nil
  | _, _, .cons h r => .cons (Rep.mono e h) (RepF.mono e r)
end
theorem Reps.length : ∀ {vs : List V} {ds : List D}, Reps K G vs ds → vs.length = ds.length
  | _, _, .nil => rfl
  | _, _, .cons _ r => congrArg Nat.succ (Reps.length r)
theorem Reps.get : ∀ {vs : List V} {ds : List D} {i : Nat} {d : D}, Reps K G vs ds → ds[i]? = some d → ∃ v, vs[i]? = some v ∧ Rep K G v d
  | _, _, _, _, .nil, e => by simp at e
  | _, _, 0, _, .cons h _, e => by simp at e; subst e; exact ⟨_, rfl, h⟩
  | _, _, i + 1, d, .cons _ r, e => by
    obtain ⟨v, h1, h2⟩ := Reps.get (i := i) (d := d) r (by simpa using e)
    exact ⟨v, by simpa using h1, h2⟩
theorem Reps.get' : ∀ {vs : List V} {ds : List D} {i : Nat} {v : V}, Reps K G vs ds → vs[i]? = some v → ∃ d, ds[i]? = some d ∧ Rep K G v d
  | _, _, _, _, .nil, e => by simp at e
  | _, _, 0, _, .cons h _, e => by simp at e; subst e; exact ⟨_, rfl, h⟩
  | _, _, i + 1, d, .cons _ r, e => by
    obtain ⟨v, h1, h2⟩ := Reps.get' (i := i) (v := d) r (by simpa using e)
    exact ⟨v, by simpa using h1, h2⟩
theorem Reps.append : ∀ {vs ws : List V} {ds es : List D}, Reps K G vs ds → Reps K G ws es → Reps K G (vs ++ ws) (ds ++ es)
  | _, _, _, _, .nil, s => s
  | _, _, _, _, .cons h r, s => .cons h (Reps.append r s)
theorem Reps.take : ∀ {vs : List V} {ds : List D} (n : Nat), Reps K G vs ds → Reps K G (vs.take n) (ds.take n)
  | _, _, 0, _ => .nil
  | _, _, _ + 1, .nil => .nil
  | _, _, n + 1, .cons h r => .cons h (Reps.take n r)
theorem Reps.drop : ∀ {vs : List V} {ds : List D} (n : Nat), Reps K G vs ds → Reps K G (vs.drop n) (ds.drop n)
  | _, _, 0, r => r
  | _, _, _ + 1, .nil => .nil
  | _, _, n + 1, .cons _ r => Reps.drop n r
theorem Reps.set {v : V} {d : D} (h : Rep K G v d) : ∀ {vs : List V} {ds : List D} (i : Nat), Reps K G vs ds → Reps K G (vs.set i v) (ds.set i d)
  | _, _, _, .nil => .nil
  | _, _, 0, .cons _ r => .cons h r
  | _, _, i + 1, .cons q r => .cons q (Reps.set h i r)
end
/-- an error as it flies -/
def XRep (K : PySem.W.Frag) (G : Gh) (cls : Value) (d : Option Addr) (x : Exc) : Prop := cls = .ref (He.ga K x.c) ∧
  match x.fs with
  | [] => d = none
  | fs => ∃ a fvs, d = some a ∧ G.F a = some (.xd fvs) ∧ RepF K G fvs fs
theorem XRep.mono {K : PySem.W.Frag} {G G' : Gh} {cls : Value} {d : Option Addr} {x : Exc} (e : G.le G') (h : XRep K G cls d x) : XRep K G' cls d x := by
  obtain ⟨h1, h2⟩ := h
  refine ⟨h1, ?_⟩
  cases hx : x.fs with
  | nil => rw [hx] at h2; exact h2
  | cons f fs =>
    rw [hx] at h2
    obtain ⟨a, fvs, q1, q2, q3⟩ := h2
    exact ⟨a, fvs, q1, e.f _ _ q2, q3.mono e⟩
structure Le (G : Gh) (H : Hp) (G' : Gh) (H' : Hp) : Prop where
  g : G.le G'
  nw : ∀ a ∈ G'.ad, a ∈ G.ad ∨ H a = none
  fz : ∀ a o, G'.F a = some o → G.F a = some o ∨ H a = none ∨ ∃ vs, o = .tup vs ∧ a ∉ G.ad ∧ ∀ o', H a = some o' → o' = .tup vs
  kp : ∀ a o, H a = some o → a ∉ G.ad → (∀ ps, o ≠ .tbl ps) → H' a = some o
  dm : ∀ a o, H a = some o → ∃ o', H' a = some o'
  tt : ∀ a ps, H a = some (.tbl ps) → ∃ qs, H' a = some (.tbl qs)
theorem Le.refl (G : Gh) (H : Hp) : Le G H G H := ⟨.refl G, fun _ h => .inl h, fun _ _ h => .inl h, fun _ _ h _ _ => h, fun _ o h => ⟨o, h⟩, fun _ ps h => ⟨ps, h⟩⟩
theorem Le.free {G G' : Gh} {H H' : Hp} (l : Le G H G' H') {a : Addr} (h : H' a = none) : H a = none := by
  cases q : H a with
  | none => rfl
  | some o =>
    obtain ⟨o', e⟩ := l.dm a o q
    rw [h] at e; cases e
theorem Le.trans {A B C : Gh} {H1 H2 H3 : Hp} (x : Le A H1 B H2) (y : Le B H2 C H3) : Le A H1 C H3 where
  g := x.g.trans y.g
  nw := fun a h => by
    rcases y.nw a h with q | q
    · exact x.nw a q
    · exact .inr (x.free q)
  fz := fun a o h => by
    rcases y.fz a o h with q | q | ⟨vs, e, na, hh⟩
    · exact x.fz a o q
    · exact .inr (.inl (x.free q))
    · have na2 : a ∉ A.ad := fun m => by
        obtain ⟨n, hn⟩ := List.mem_iff_getElem?.mp m
        exact na (List.mem_of_getElem? (x.g.d n a hn))
      refine .inr (.inr ⟨vs, e, na2, fun o1 h1 => ?_⟩)
      cases o1 with
      | tbl ps =>
        obtain ⟨qs, hq⟩ := x.tt a ps h1
        cases hh _ hq
      | _ => exact hh _ (x.kp a _ h1 na2 (fun _ z => by cases z))
  kp := fun a o h n t => y.kp a o (x.kp a o h n t) (fun q => by
    rcases x.nw a q with z | z
    · exact n z
    · rw [h] at z; cases z) t
  dm := fun a o h => let ⟨o', e⟩ := x.dm a o h; y.dm a o' e
  tt := fun a ps h => let ⟨qs, e⟩ := x.tt a ps h; y.tt a qs e
/-- the def's table of code objects at P is not in K: it may grow; q: the name of the def's lambdas -/
def TabK (K : PySem.W.Frag) (P : Addr) (q : Str) : Prop := ∃ (f c : Addr) (oc : Value) (od : Option Addr) (fd : FuncData) (osl : Array (Option Value)) (cc : Value) (cd : Option Addr) (vs : Array Value) (csl : Array (Option Value)),
  K.lookup f = some ⟨oc, od, .func fd, osl⟩ ∧ fd.code = .ref c ∧ K.lookup c = some ⟨cc, cd, .fields vs, csl⟩ ∧ vs[11]? = some (.ref P) ∧ K.lookup P = none ∧ q = fd.qualname ++ ".<locals>." ++ "<lambda>"
/-- the table at P: each code object that it tells is frozen, of the name q -/
def TabG (G : Gh) (H : Hp) (P : Addr) (q : Str) : Prop := G.F P = none ∧ P ∉ G.ad ∧ ∃ ps : Array Value, H P = some (.tbl ps) ∧ TriplesOk ps.toList ∧ ∀ (pos : Pos) (cv : Value), codeAmong pos ps.toList = some cv → ∃ c, cv = .ref c ∧ G.F c = some (LamX.CodeO c q)
def Tb (K : PySem.W.Frag) (H0 : Hp) (G : Gh) (H : Hp) : Prop := ∀ P q, TabK K P q → (∃ ps, H0 P = some (.tbl ps)) ∧ TabG G H P q
theorem Tb.here {K : PySem.W.Frag} {H0 H : Hp} {G : Gh} (t : Tb K H0 G H) : Tb K H G H := fun P q hP => ⟨(t P q hP).2.2.2.imp fun _ h => h.1, (t P q hP).2⟩
theorem Tb.step {K : PySem.W.Frag} {H0 H H' : Hp} {G G' : Gh} (t : Tb K H0 G H) (g : G.le G') (h : ∀ P ps, H0 P ≠ none → G.F P = none → P ∉ G.ad → H P = some (.tbl ps) → G'.F P = none ∧ P ∉ G'.ad ∧ H' P = some (.tbl ps)) : Tb K H0 G' H' := fun P q hP => by
  obtain ⟨⟨ps0, h0⟩, f, a, ps, e, tr, c⟩ := t P q hP
  obtain ⟨f', a', e'⟩ := h P ps (by rw [h0]; simp) f a e
  exact ⟨⟨ps0, h0⟩, f', a', ps, e', tr, fun pos cv hc => by
    obtain ⟨c1, z1, z2⟩ := c pos cv hc
    exact ⟨c1, z1, g.f _ _ z2⟩⟩
def KvRel {κ : Type} (K : PySem.W.Frag) (G : Gh) : List (κ × V) → List (κ × D) → Prop := Paired fun p q => p.1 = q.1 ∧ Rep K G p.2 q.2
theorem KvRel.mono {κ : Type} {K : PySem.W.Frag} {G G' : Gh} (e : G.le G') {a : List (κ × V)} {b : List (κ × D)} (h : KvRel K G a b) : KvRel K G' a b := Paired.mapP h fun _ _ ⟨x, y⟩ => ⟨x, y.mono e⟩
/-- the very object at f -/
def FnO (f : Addr) (o : Obj) : HO := .ext fun h => h.get? f = some o
abbrev lamO (l : Lam) (cl : List (Str × Addr)) (pm : Value) (c' : Addr) (ctv : Value) : Obj := PySem.W.kla_obj "<lambda>" l.q l.ps l.body l.sc (cloFrom cl l.sc.names []) pm c' ctv
/-- the names that a lambda takes from around -/
def frees (l : Lam) : List Str := (l.sc.names.filter fun y => decide (y.2 = .free)).map (·.1)
def LamAt (G : Gh) (H : Hp) (f : Addr) (l : Lam) (cl : List (Str × Addr)) : Prop := ∃ pm c' ctv, G.F f = some (FnO f (lamO l cl pm c' ctv)) ∧ H f = some (FnO f (lamO l cl pm c' ctv)) ∧ G.F c' = some (LamX.CodeO c' l.q)
def CelsAt (G : Gh) (cl : List (Str × Addr)) (cvs : List (Str × V)) : Prop := (∀ x y c, cl.lookup x = some c → cl.lookup y = some c → x = y) ∧ ∀ p ∈ cvs, ∃ c o u, cl.lookup p.1 = some c ∧ G.F c = some (FnO c o) ∧ o.data = .cell (some u) ∧ RelV p.2 u
theorem LamAt.mono {G G' : Gh} {H H' : Hp} {f : Addr} {l : Lam} {cl : List (Str × Addr)} (e : G.le G') (k : ∀ u, H f = some u → H' f = some u) (h : LamAt G H f l cl) : LamAt G' H' f l cl := by
  obtain ⟨pm, c', ctv, h1, h2, h3⟩ := h
  exact ⟨pm, c', ctv, e.f _ _ h1, k _ h2, e.f _ _ h3⟩
theorem CelsAt.mono {G G' : Gh} {cl : List (Str × Addr)} {cvs : List (Str × V)} (e : G.le G') (h : CelsAt G cl cvs) : CelsAt G' cl cvs := ⟨h.1, fun p hp => let ⟨c, o, u, a, b, d⟩ := h.2 p hp; ⟨c, o, u, a, e.f _ _ b, d⟩⟩
def ObRel (K : PySem.W.Frag) (G : Gh) (H : Hp) (a : Addr) : Ob → Prop
  | .fun l cl => LamAt G H a l cl
  | .clo l fs => ∃ cl cvs, LamAt G H a l cl ∧ CelsAt G cl cvs ∧ RepF K G cvs fs ∧ fs.map (·.1) = frees l
  | .hid => ∃ o, G.F a = some (FnO a o) ∧ H a = some (FnO a o) ∧ ∀ v, o.data ≠ .cell v
  | .dct kvs => ∃ vs, H a = some (.dK vs) ∧ KvRel K G vs kvs
  | .dtt kvs => ∃ vs, H a = some (.dT vs) ∧ KvRel K G vs kvs
  | .ins c fs => ∃ dx fvs, H a = some (.ins (He.ga K c) dx fvs) ∧ RepF K G fvs fs
  | .lst ds => ∃ vs, H a = some (.lst vs) ∧ Reps K G vs ds
theorem ObRel.mono {K : PySem.W.Frag} {G G' : Gh} {H H' : Hp} {a : Addr} {o : Ob} (e : G.le G') (k : ∀ u, H a = some u → H' a = some u) (h : ObRel K G H a o) : ObRel K G' H' a o := by
  cases o with
  | dct kvs => obtain ⟨vs, q, r⟩ := h; exact ⟨vs, k _ q, r.mono e⟩
  | dtt kvs => obtain ⟨vs, q, r⟩ := h; exact ⟨vs, k _ q, r.mono e⟩
  | ins c fs => obtain ⟨dx, vs, q, r⟩ := h; exact ⟨dx, vs, k _ q, r.mono e⟩
  | lst ds => obtain ⟨vs, q, r⟩ := h; exact ⟨vs, k _ q, r.mono e⟩
  | «fun» l cl => exact LamAt.mono e k h
  | clo l fs => obtain ⟨cl, cvs, h1, h2, h3, h4⟩ := h; exact ⟨cl, cvs, h1.mono e k, h2.mono e, h3.mono e, h4⟩
  | hid => obtain ⟨o, h1, h2, h3⟩ := h; exact ⟨o, e.f _ _ h1, k _ h2, h3⟩
theorem ObRel.there {K : PySem.W.Frag} {G : Gh} {H : Hp} {a : Addr} {o : Ob} (h : ObRel K G H a o) : ∃ u, H a = some u := by
  cases o with
  | dct kvs => obtain ⟨vs, q, r⟩ := h; exact ⟨_, q⟩
  | dtt kvs => obtain ⟨vs, q, r⟩ := h; exact ⟨_, q⟩
  | ins c fs => obtain ⟨dx, vs, q, r⟩ := h; exact ⟨_, q⟩
  | lst ds => obtain ⟨vs, q, r⟩ := h; exact ⟨_, q⟩
  | «fun» l cl => obtain ⟨_, _, _, _, q, _⟩ := h; exact ⟨_, q⟩
  | clo l fs => obtain ⟨_, _, ⟨_, _, _, _, q, _⟩, _⟩ := h; exact ⟨_, q⟩
  | hid => obtain ⟨o, _, q, _⟩ := h; exact ⟨_, q⟩
theorem ObRel.noTbl {K : PySem.W.Frag} {G : Gh} {H : Hp} {a : Addr} {o : Ob} (h : ObRel K G H a o) (ps : Array Value) : H a ≠ some (.tbl ps) := by
  cases o with
  | dct kvs => obtain ⟨vs, q, r⟩ := h; rw [q]; exact fun z => by cases z
  | dtt kvs => obtain ⟨vs, q, r⟩ := h; rw [q]; exact fun z => by cases z
  | ins c fs => obtain ⟨dx, vs, q, r⟩ := h; rw [q]; exact fun z => by cases z
  | lst ds => obtain ⟨vs, q, r⟩ := h; rw [q]; exact fun z => by cases z
  | «fun» l cl => obtain ⟨_, _, _, _, q, _⟩ := h; rw [q]; unfold FnO; exact fun z => by cases z
  | clo l fs => obtain ⟨_, _, ⟨_, _, _, _, q, _⟩, _⟩ := h; rw [q]; unfold FnO; exact fun z => by cases z
  | hid => obtain ⟨o, _, q, _⟩ := h; rw [q]; unfold FnO; exact fun z => by cases z
structure StRel (K : PySem.W.Frag) (G : Gh) (H : Hp) (st : List Ob) : Prop where
  len : G.ad.length = st.length
  at_ : ∀ (n : Nat) a o, G.ad[n]? = some a → st[n]? = some o → ObRel K G H a o
  nof : ∀ a ∈ G.ad, G.F a = none ∨ ∃ φ, G.F a = some (.ext φ)
  nd : G.ad.Nodup
theorem StRel.there {K : PySem.W.Frag} {G : Gh} {H : Hp} {st : List Ob} (h : StRel K G H st) {a : Addr} (m : a ∈ G.ad) : ∃ u, H a = some u := by
  obtain ⟨n, hn⟩ := List.mem_iff_getElem?.mp m
  obtain ⟨hl, _⟩ := List.getElem?_eq_some_iff.mp hn
  have hl2 : n < st.length := by rw [← h.len]; exact hl
  exact (h.at_ n a st[n] hn (List.getElem?_eq_getElem hl2)).there
structure SlRel (K : PySem.W.Frag) (pn : List (Addr × Obj)) (H0 : Hp) (G : Gh) (σ : St) (H : Hp) (sl : List Slot) : Prop where
  len : σ.length = sl.length
  imm : ∀ (i : Nat) d, sl[i]? = some (.imm d) → ∃ v, σ[i]? = some (some v) ∧ Rep K G v d
  own : ∀ (i : Nat) ds, sl[i]? = some (.own ds) → ∃ a vs, σ[i]? = some (some (.ref a)) ∧ H a = some (.lst vs) ∧ Reps K G vs ds ∧ G.F a = none ∧ a ∉ G.ad ∧ H0 a = none
  dis : ∀ (i j : Nat) ds es a, sl[i]? = some (.own ds) → sl[j]? = some (.own es) → σ[i]? = some (some (.ref a)) → σ[j]? = some (some (.ref a)) → i = j
  xn : ∀ (i : Nat) x, sl[i]? = some (.xn x) → ∃ a oe tl cls d, pn = (a, oe) :: tl ∧ σ[i]? = some (some (.ref a)) ∧ Zc cls d oe ∧ XRep K G cls d x
structure Wd where
  G0 : Gh
  H0 : Hp
  G : Gh
  σ : St
  H : Hp
  s : S
  /-- objects under way that nobody else holds (a comprehension's list) -/
  pr : List (Addr × HO) := []
/-- what a thing under way keeps -/
def isT : HO → Bool
  | .tup _ => true
  | .tbl _ => true
  | _ => false
theorem isT_tbl {o : HO} (h : isT o = false) : ∀ ps, o ≠ .tbl ps := fun ps e => by subst e; cases h
def PrOk (w : Wd) : Prop := ∀ q ∈ w.pr, w.H q.1 = some q.2 ∧ w.G.F q.1 = none ∧ (q.1 ∉ w.G.ad ∧ isT q.2 = false) ∧ w.H0 q.1 = none ∧ ∀ (i : Nat) es, w.s.sl[i]? = some (.own es) → w.σ[i]? ≠ some (some (.ref q.1))
structure Rel (K : PySem.W.Frag) (pn : List (Addr × Obj)) (w : Wd) : Prop where
  ex : ∀ a o, w.G.F a = some o → w.H a = some o
  le : Le w.G0 w.H0 w.G w.H
  st : StRel K w.G w.H w.s.st
  sl : SlRel K pn w.H0 w.G w.σ w.H w.s.sl
  pr : PrOk w
  tb : Tb K w.H0 w.G w.H
section
variable {α β γ δ : Type}
/-- what is wished of a mirror's end -/
def okG (K : PySem.W.Frag) (pn : List (Addr × Obj)) (W : WX) (A : Wd → β → α → Prop) (w : Wd) (Q : β → Hp → Prop) : R α → Prop
  | .ok a s' => ∀ G' b H', w.G.le G' → Rel K pn { w with G := G', H := H', s := s' } → A { w with G := G', H := H', s := s' } b a → Q b H'
  | .exc x s' => ∀ G' c d H', w.G.le G' → Rel K pn { w with G := G', H := H', s := s' } → XRep K G' c d x → W c d w.σ H'
  | .stuck => False
def tG (K : PySem.W.Frag) (pn : List (Addr × Obj)) (W : WX) (A : Wd → β → α → Prop) (m : S → R α) : St → Hp → (β → Hp → Prop) → Prop := fun σ H Q => ∃ w : Wd, w.σ = σ ∧ w.H = H ∧ Rel K pn w ∧ okG K pn W A w Q (m w.s)
abbrev AR (K : PySem.W.Frag) : Wd → V → D → Prop := fun w v d => Rep K w.G v d
abbrev ARs (K : PySem.W.Frag) : Wd → List V → List D → Prop := fun w v d => Reps K w.G v d
abbrev AB : Wd → Bool → Bool → Prop := fun _ b c => b = c
/-- a new list that nobody else holds -/
def AF (K : PySem.W.Frag) : Wd → V → List D → Prop := fun w v ds => ∃ a vs, v = .ref a ∧ w.H a = some (.lst vs) ∧ Reps K w.G vs ds ∧ w.G.F a = none ∧ a ∉ w.G.ad ∧ w.H0 a = none ∧
  (∀ (i : Nat) es, w.s.sl[i]? = some (.own es) → w.σ[i]? ≠ some (some (.ref a))) ∧ ∀ q ∈ w.pr, q.1 ≠ a
variable {K : PySem.W.Frag} {pn : List (Addr × Obj)} {W : WX}
theorem okG.up {A : Wd → β → α → Prop} {w : Wd} {Q : β → Hp → Prop} {r : R α} (h : okG K pn W A w Q r) {G' : Gh} {H' : Hp} {s' : S} (e : w.G.le G') : okG K pn W A { w with G := G', H := H', s := s' } Q r := by
  cases r with
  | ok a s2 => exact fun G2 b H2 e2 r2 a2 => h G2 b H2 (e.trans e2) r2 a2
  | exc x s2 => exact fun G2 c d H2 e2 r2 a2 => h G2 c d H2 (e.trans e2) r2 a2
  | stuck => exact h
/-- THE STEP: m first, then k -/
theorem run {A : Wd → β → α → Prop} {B : Wd → δ → γ → Prop} {m : S → R α} {k : α → S → R γ} {w : Wd} {Q : δ → Hp → Prop} {Q1 : β → Hp → Prop} (r : Rel K pn w) (h : okG K pn W B w Q (bnd m k w.s))
    (hk : ∀ a s' G' b H', w.G.le G' → Rel K pn { w with G := G', H := H', s := s' } → A { w with G := G', H := H', s := s' } b a → okG K pn W B { w with G := G', H := H', s := s' } Q (k a s') → Q1 b H') : tG K pn W A m w.σ w.H Q1 := by
  refine ⟨w, rfl, rfl, r, ?_⟩
  unfold bnd at h
  cases hm : m w.s with
  | ok a s' =>
    rw [hm] at h
    intro G' b H' e r' ha
    exact hk a s' G' b H' e r' ha (h.up e)
  | exc x s' =>
    rw [hm] at h
    exact h
  | stuck =>
    rw [hm] at h
    exact h
theorem fin {B : Wd → δ → γ → Prop} {w : Wd} {Q : δ → Hp → Prop} {c : γ} {d : δ} (r : Rel K pn w) (h : okG K pn W B w Q (.ok c w.s)) (hb : B w d c) : Q d w.H := h w.G d w.H (.refl _) r hb
end
def JE (X : Cx) (W : WX) (e : Expr) (m : ME) : Prop := PE X e (tG X.K X.pn W (AR X.K) m)
def JF (X : Cx) (W : WX) (e : Expr) (m : MA) : Prop := PE X e (tG X.K X.pn W (AF X.K) m)
structure JA (X : Cx) (W : WX) (es : List Expr) (m : MA) : Prop where
  pa : PA X es (tG X.K X.pn W (ARs X.K) m)
  len : ∀ s as s', m s = .ok as s' → as.length = es.length
def JT (X : Cx) (W : WX) (e : Expr) (m : MT) : Prop := PT X e (tG X.K X.pn W AB m)
/-- a test inside and, or -/
def JW (X : Cx) (W : WX) (e : Expr) (m : MT) : Prop := PW X e (tG X.K X.pn W AB m)
def okS (K : PySem.W.Frag) (pn : List (Addr × Obj)) (W : WX) (w : Wd) (D : Ends) : R Fl → Prop
  | .ok fl s' => ∀ G' σ' H', w.G.le G' → Rel K pn { w with G := G', σ := σ', H := H', s := s' } → match fl with
    | .nx => D.nx σ' H'
    | .bk => D.bk σ' H'
    | .ct => D.ct σ' H'
    | .rt d => ∀ v, Rep K G' v d → D.rt v H'
  | .exc x s' => ∀ G' σ' c d H', w.G.le G' → Rel K pn { w with G := G', σ := σ', H := H', s := s' } → XRep K G' c d x → W c d σ' H'
  | .stuck => False
def tS (K : PySem.W.Frag) (pn : List (Addr × Obj)) (W : WX) (m : MS) : TS := fun D σ H => ∃ w : Wd, w.σ = σ ∧ w.H = H ∧ Rel K pn w ∧ okS K pn W w D (m w.s)
def JS (X : Cx) (W : WX) (st : Stmt) (m : MS) : Prop := PS X st (tS X.K X.pn W m)
def JSs (X : Cx) (W : WX) (st : List Stmt) (m : MS) : Prop := PSs X st (tS X.K X.pn W m)
theorem PE.imp {X : Cx} {e : Expr} {t t' : TE} (h : PE X e t) (i : ∀ σ H Q, t' σ H Q → t σ H Q) : PE X e t' := ⟨fun pins s σ H Q I q => h.run pins s σ H Q I (i _ _ _ q)⟩
theorem PA.imp {X : Cx} {e : List Expr} {t t' : TA} (h : PA X e t) (i : ∀ σ H Q, t' σ H Q → t σ H Q) : PA X e t' := ⟨fun pos pins s σ H Q I q => h.run pos pins s σ H Q I (i _ _ _ q)⟩
theorem PT.imp {X : Cx} {e : Expr} {t t' : TT} (h : PT X e t) (i : ∀ σ H Q, t' σ H Q → t σ H Q) : PT X e t' := ⟨fun pins s σ H Q I q => h.run pins s σ H Q I (i _ _ _ q)⟩
theorem PW.imp {X : Cx} {e : Expr} {t t' : TT} (h : PW X e t) (i : ∀ σ H Q, t' σ H Q → t σ H Q) : PW X e t' := ⟨fun wh pins s σ H Q I q => h.run wh pins s σ H Q I (i _ _ _ q)⟩
theorem PS.imp {X : Cx} {e : Stmt} {t t' : TS} (h : PS X e t) (i : ∀ D σ H, t' D σ H → t D σ H) : PS X e t' := ⟨fun pins s σ H D I q => h.run pins s σ H D I (i _ _ _ q)⟩
theorem PSs.imp {X : Cx} {e : List Stmt} {t t' : TS} (h : PSs X e t) (i : ∀ D σ H, t' D σ H → t D σ H) : PSs X e t' := ⟨fun pins s σ H D I q => h.run pins s σ H D I (i _ _ _ q)⟩
end DL
namespace DL
open PySem PySem.Spec L2
section
variable {K : PySem.W.Frag} {pn : List (Addr × Obj)} {w : Wd}
theorem upd_get {H : Hp} {p a : Addr} {o u : HO} (h : upd H p o a = some u) : (a = p ∧ u = o) ∨ (a ≠ p ∧ H a = some u) := by
  by_cases e : a = p
  · subst e; rw [upd_same] at h; cases h; exact .inl ⟨rfl, rfl⟩
  · rw [upd_ne e] at h; exact .inr ⟨e, h⟩
/-- an object that is not there yet is laid -/
theorem Rel.alloc (r : Rel K pn w) {p : Addr} {o : HO} (hp : w.H p = none) : Rel K pn { w with H := upd w.H p o } := by
  have up : ∀ a u, w.H a = some u → upd w.H p o a = some u := fun a u h => by rw [upd_ne (ne_of_none h hp)]; exact h
  refine ⟨fun a u h => up a u (r.ex a u h), ⟨r.le.g, r.le.nw, r.le.fz, fun a u h n t => up a u (r.le.kp a u h n t), fun a u h => ?_, fun a ps h => let ⟨qs, h'⟩ := r.le.tt a ps h; ⟨qs, up a _ h'⟩⟩, ⟨r.st.len, fun n a u h1 h2 => (r.st.at_ n a u h1 h2).mono (.refl _) (up a), r.st.nof, r.st.nd⟩, ⟨r.sl.len, r.sl.imm, fun i ds h => ?_, r.sl.dis, r.sl.xn⟩, fun q hq => ?_, r.tb.step (.refl _) fun P ps _ f a h => ⟨f, a, up P _ h⟩⟩
  · obtain ⟨u', h'⟩ := r.le.dm a u h
    exact ⟨u', up a u' h'⟩
  · obtain ⟨a, vs, h1, h2, h3⟩ := r.sl.own i ds h
    exact ⟨a, vs, h1, up a _ h2, h3⟩
  · obtain ⟨h1, h2⟩ := r.pr q hq
    exact ⟨up _ _ h1, h2⟩
theorem gle_upd {G : Gh} {p : Addr} {o : HO} (hp : G.F p = none) : G.le { G with F := upd G.F p o } := ⟨fun a u h => by show upd G.F p o a = some u; rw [upd_ne (ne_of_none h hp)]; exact h, fun _ _ h => h⟩
/-- what nobody changes any more is frozen -/
theorem Rel.freeze (r : Rel K pn w) {p : Addr} {o : HO} (hp : w.H p = some o) (hf : w.G.F p = none) (ha : p ∉ w.G.ad) (h0 : w.H0 p = none) (hs : ∀ (i : Nat) es, w.s.sl[i]? = some (.own es) → w.σ[i]? ≠ some (some (.ref p))) (hpr : ∀ q ∈ w.pr, q.1 ≠ p) :
    Rel K pn { w with G := { w.G with F := upd w.G.F p o } } := by
  have g := gle_upd (o := o) hf
  refine ⟨fun a u h => ?_, ⟨r.le.g.trans g, r.le.nw, fun a u h => ?_, r.le.kp, r.le.dm, r.le.tt⟩, ⟨r.st.len, fun n a u h1 h2 => (r.st.at_ n a u h1 h2).mono g fun _ q => q, fun a h => ?_, r.st.nd⟩, ⟨r.sl.len, fun i d h => ?_, fun i ds h => ?_, r.sl.dis, fun i x h => ?_⟩, fun q hq => ?_, r.tb.step g fun P ps z f a h => ⟨(upd_ne (show P ≠ p from fun e => z (e ▸ h0))).trans f, a, h⟩⟩
  · rcases upd_get h with ⟨e, z⟩ | ⟨e, z⟩
    · rw [e, z]; exact hp
    · exact r.ex a u z
  · rcases upd_get h with ⟨e, z⟩ | ⟨e, z⟩
    · rw [e]; exact .inr (.inl h0)
    · exact r.le.fz a u z
  · exact (r.st.nof a h).imp (fun z => (upd_ne (show a ≠ p from fun e => ha (e ▸ h))).trans z) fun ⟨φ, z⟩ => ⟨φ, (upd_ne (show a ≠ p from fun e => ha (e ▸ h))).trans z⟩
  · obtain ⟨v, h1, h2⟩ := r.sl.imm i d h
    exact ⟨v, h1, h2.mono g⟩
  · obtain ⟨a, vs, h1, h2, h3, h4, h5⟩ := r.sl.own i ds h
    refine ⟨a, vs, h1, h2, h3.mono g, ?_, h5⟩
    exact (upd_ne (show a ≠ p from fun e => hs i ds h (e ▸ h1))).trans h4
  · obtain ⟨a, oe, tl, cls, d, h1, h2, h3, h4⟩ := r.sl.xn i x h
    exact ⟨a, oe, tl, cls, d, h1, h2, h3, h4.mono g⟩
  · obtain ⟨h1, h2, h3⟩ := r.pr q hq
    exact ⟨h1, (upd_ne (hpr q hq)).trans h2, h3⟩
theorem Rel.noF (r : Rel K pn w) {p : Addr} (hp : w.H p = none) : w.G.F p = none := by
  cases q : w.G.F p with
  | none => rfl
  | some o => rw [r.ex p o q] at hp; cases hp
theorem Rel.noA (r : Rel K pn w) {p : Addr} (hp : w.H p = none) : p ∉ w.G.ad := fun h => by
  obtain ⟨u, hu⟩ := r.st.there h
  rw [hp] at hu; cases hu
theorem Rel.no0 (r : Rel K pn w) {p : Addr} (hp : w.H p = none) : w.H0 p = none := r.le.free hp
theorem Rel.noS (r : Rel K pn w) {p : Addr} (hp : w.H p = none) (i : Nat) (es : List D) (h : w.s.sl[i]? = some (.own es)) : w.σ[i]? ≠ some (some (.ref p)) := fun q => by
  obtain ⟨a, vs, h1, h2, _⟩ := r.sl.own i es h
  rw [q] at h1
  cases h1
  rw [hp] at h2; cases h2
theorem Rel.noP (r : Rel K pn w) {p : Addr} (hp : w.H p = none) : ∀ q ∈ w.pr, q.1 ≠ p := fun q hq e => by
  have := (r.pr q hq).1
  rw [e, hp] at this; cases this
/-- a new object, frozen at once -/
theorem Rel.new (r : Rel K pn w) {p : Addr} {o : HO} (hp : w.H p = none) : Rel K pn { w with G := { w.G with F := upd w.G.F p o }, H := upd w.H p o } :=
  Rel.freeze (w := { w with H := upd w.H p o }) (r.alloc hp) upd_same (r.noF hp) (r.noA hp) (r.no0 hp) (r.noS hp) (r.noP hp)
/-- a new list of one's own -/
theorem AF.new (r : Rel K pn w) {p : Addr} {vs : List V} {ds : List D} (hp : w.H p = none) (h : Reps K w.G vs ds) : AF K { w with H := upd w.H p (.lst vs) } (.ref p) ds :=
  ⟨p, vs, rfl, upd_same, h, r.noF hp, r.noA hp, r.no0 hp, r.noS hp, r.noP hp⟩
/-- .. frozen -/
theorem AF.rep (r : Rel K pn w) {v : V} {ds : List D} (h : AF K w v ds) : ∃ G', w.G.le G' ∧ Rel K pn { w with G := G' } ∧ Rep K G' v (.lst ds) := by
  obtain ⟨a, vs, rfl, h1, h2, h3, h4, h5, h6, h7⟩ := h
  exact ⟨_, gle_upd h3, r.freeze h1 h3 h4 h5 h6 h7, .lst upd_same (h2.mono (gle_upd h3))⟩
/-- the extension of the ghost keeps all relations between values -/
theorem Rel.len (r : Rel K pn w) : w.σ.length = w.s.sl.length := r.sl.len
def S.put (s : S) (i : Nat) (x : Slot) : S := { s with sl := s.sl.set i x }
theorem set_get {α : Type} {l : List α} {i j : Nat} {x y : α} (h : (l.set i x)[j]? = some y) : (j = i ∧ y = x) ∨ (j ≠ i ∧ l[j]? = some y) := by
  by_cases e : j = i
  · subst e
    by_cases hl : j < l.length
    · rw [List.getElem?_set_self hl] at h; cases h; exact .inl ⟨rfl, rfl⟩
    · rw [List.getElem?_eq_none (by simpa using hl)] at h; cases h
  · rw [List.getElem?_set_ne (Ne.symm e)] at h; exact .inr ⟨e, h⟩
theorem set_lt {α : Type} {l : List α} {i j : Nat} {x y : α} (h : (l.set i x)[j]? = some y) : j < l.length := by
  have := (List.getElem?_eq_some_iff.mp h).1
  simpa using this
/-- slot i is given a value -/
theorem Rel.set (r : Rel K pn w) {i : Nat} {v : V} {d : D} (h : Rep K w.G v d) : Rel K pn { w with σ := w.σ.set i (some v), s := w.s.put i (.imm d) } := by
  refine ⟨r.ex, r.le, r.st, ⟨by show (w.σ.set i (some v)).length = (w.s.sl.set i (.imm d)).length; rw [List.length_set, List.length_set]; exact r.sl.len, fun j e q => ?_, fun j ds q => ?_, fun j k ds es a q1 q2 q3 q4 => ?_, fun j x q => ?_⟩, fun q hq => ?_, r.tb⟩
  · have hl : j < w.σ.length := by rw [r.sl.len]; exact set_lt q
    rcases set_get q with ⟨e1, e2⟩ | ⟨e1, e2⟩
    · subst e1; cases e2
      exact ⟨v, List.getElem?_set_self hl, h⟩
    · obtain ⟨u, h1, h2⟩ := r.sl.imm j e e2
      exact ⟨u, by show (w.σ.set i (some v))[j]? = _; rw [List.getElem?_set_ne (Ne.symm e1)]; exact h1, h2⟩
  · rcases set_get q with ⟨e1, e2⟩ | ⟨e1, e2⟩
    · cases e2
    · obtain ⟨a, vs, h1, h2⟩ := r.sl.own j ds e2
      exact ⟨a, vs, by show (w.σ.set i (some v))[j]? = _; rw [List.getElem?_set_ne (Ne.symm e1)]; exact h1, h2⟩
  · rcases set_get q1 with ⟨e1, e2⟩ | ⟨e1, e2⟩
    · cases e2
    · rcases set_get q2 with ⟨e3, e4⟩ | ⟨e3, e4⟩
      · cases e4
      · have z1 : w.σ[j]? = some (some (.ref a)) := by rw [← q3]; exact (List.getElem?_set_ne (Ne.symm e1)).symm
        have z2 : w.σ[k]? = some (some (.ref a)) := by rw [← q4]; exact (List.getElem?_set_ne (Ne.symm e3)).symm
        exact r.sl.dis j k ds es a e2 e4 z1 z2
  · rcases set_get q with ⟨e1, e2⟩ | ⟨e1, e2⟩
    · cases e2
    · obtain ⟨a, oe, tl, cls, d, h1, h2, h3⟩ := r.sl.xn j x e2
      exact ⟨a, oe, tl, cls, d, h1, by show (w.σ.set i (some v))[j]? = _; rw [List.getElem?_set_ne (Ne.symm e1)]; exact h2, h3⟩
  · obtain ⟨p1, p2, p3, p4, p5⟩ := r.pr q hq
    refine ⟨p1, p2, p3, p4, fun j es h1 h2 => ?_⟩
    rcases set_get h1 with ⟨e1, e2⟩ | ⟨e1, e2⟩
    · cases e2
    · exact p5 j es e2 ((List.getElem?_set_ne (Ne.symm e1)).symm.trans h2)
/-- slot i is forgotten -/
theorem Rel.clr (r : Rel K pn w) {i : Nat} {v : Option V} : Rel K pn { w with σ := w.σ.set i v, s := w.s.put i .emp } := by
  refine ⟨r.ex, r.le, r.st, ⟨by show (w.σ.set i v).length = (w.s.sl.set i .emp).length; rw [List.length_set, List.length_set]; exact r.sl.len, fun j e q => ?_, fun j ds q => ?_, fun j k ds es a q1 q2 q3 q4 => ?_, fun j x q => ?_⟩, fun q hq => ?_, r.tb⟩
  · rcases set_get q with ⟨e1, e2⟩ | ⟨e1, e2⟩
    · cases e2
    · obtain ⟨u, h1, h2⟩ := r.sl.imm j e e2
      exact ⟨u, by show (w.σ.set i v)[j]? = _; rw [List.getElem?_set_ne (Ne.symm e1)]; exact h1, h2⟩
  · rcases set_get q with ⟨e1, e2⟩ | ⟨e1, e2⟩
    · cases e2
    · obtain ⟨a, vs, h1, h2⟩ := r.sl.own j ds e2
      exact ⟨a, vs, by show (w.σ.set i v)[j]? = _; rw [List.getElem?_set_ne (Ne.symm e1)]; exact h1, h2⟩
  · rcases set_get q1 with ⟨e1, e2⟩ | ⟨e1, e2⟩
    · cases e2
    · rcases set_get q2 with ⟨e3, e4⟩ | ⟨e3, e4⟩
      · cases e4
      · have z1 : w.σ[j]? = some (some (.ref a)) := by rw [← q3]; exact (List.getElem?_set_ne (Ne.symm e1)).symm
        have z2 : w.σ[k]? = some (some (.ref a)) := by rw [← q4]; exact (List.getElem?_set_ne (Ne.symm e3)).symm
        exact r.sl.dis j k ds es a e2 e4 z1 z2
  · rcases set_get q with ⟨e1, e2⟩ | ⟨e1, e2⟩
    · cases e2
    · obtain ⟨a, oe, tl, cls, d, h1, h2, h3⟩ := r.sl.xn j x e2
      exact ⟨a, oe, tl, cls, d, h1, by show (w.σ.set i v)[j]? = _; rw [List.getElem?_set_ne (Ne.symm e1)]; exact h2, h3⟩
  · obtain ⟨p1, p2, p3, p4, p5⟩ := r.pr q hq
    refine ⟨p1, p2, p3, p4, fun j es h1 h2 => ?_⟩
    rcases set_get h1 with ⟨e1, e2⟩ | ⟨e1, e2⟩
    · cases e2
    · exact p5 j es e2 ((List.getElem?_set_ne (Ne.symm e1)).symm.trans h2)
/-- slot i is given a new list of its own -/
theorem Rel.setOwn (r : Rel K pn w) {i : Nat} {v : V} {ds : List D} (h : AF K w v ds) : Rel K pn { w with σ := w.σ.set i (some v), s := w.s.put i (.own ds) } := by
  obtain ⟨a, vs, rfl, h1, h2, h3, h4, h5, h6, h7⟩ := h
  refine ⟨r.ex, r.le, r.st, ⟨by show (w.σ.set i (some (.ref a))).length = (w.s.sl.set i (.own ds)).length; rw [List.length_set, List.length_set]; exact r.sl.len, fun j e q => ?_, fun j es q => ?_, fun j k es fs b q1 q2 q3 q4 => ?_, fun j x q => ?_⟩, fun q hq => ?_, r.tb⟩
  · rcases set_get q with ⟨e1, e2⟩ | ⟨e1, e2⟩
    · cases e2
    · obtain ⟨u, z1, z2⟩ := r.sl.imm j e e2
      exact ⟨u, by show (w.σ.set i _)[j]? = _; rw [List.getElem?_set_ne (Ne.symm e1)]; exact z1, z2⟩
  · have hl : j < w.σ.length := by rw [r.sl.len]; exact set_lt q
    rcases set_get q with ⟨e1, e2⟩ | ⟨e1, e2⟩
    · subst e1; cases e2
      exact ⟨a, vs, List.getElem?_set_self hl, h1, h2, h3, h4, h5⟩
    · obtain ⟨b, us, z1, z2⟩ := r.sl.own j es e2
      exact ⟨b, us, by show (w.σ.set i _)[j]? = _; rw [List.getElem?_set_ne (Ne.symm e1)]; exact z1, z2⟩
  · have hj : j < w.σ.length := by rw [r.sl.len]; exact set_lt q1
    have hk : k < w.σ.length := by rw [r.sl.len]; exact set_lt q2
    have g1 : (w.σ.set i (some (V.ref a)))[j]? = some (some (.ref b)) := q3
    have g2 : (w.σ.set i (some (V.ref a)))[k]? = some (some (.ref b)) := q4
    rcases set_get q1 with ⟨e1, e2⟩ | ⟨e1, e2⟩
    · subst e1
      rcases set_get q2 with ⟨e3, e4⟩ | ⟨e3, e4⟩
      · exact e3.symm
      · rw [List.getElem?_set_self hj] at g1; cases g1
        rw [List.getElem?_set_ne (Ne.symm e3)] at g2
        exact absurd g2 (h6 k fs e4)
    · rw [List.getElem?_set_ne (Ne.symm e1)] at g1
      rcases set_get q2 with ⟨e3, e4⟩ | ⟨e3, e4⟩
      · subst e3
        rw [List.getElem?_set_self hk] at g2; cases g2
        exact absurd g1 (h6 j es e2)
      · rw [List.getElem?_set_ne (Ne.symm e3)] at g2
        exact r.sl.dis j k es fs b e2 e4 g1 g2
  · rcases set_get q with ⟨e1, e2⟩ | ⟨e1, e2⟩
    · cases e2
    · obtain ⟨b, oe, tl, cls, d, z1, z2, z3⟩ := r.sl.xn j x e2
      exact ⟨b, oe, tl, cls, d, z1, by show (w.σ.set i _)[j]? = _; rw [List.getElem?_set_ne (Ne.symm e1)]; exact z2, z3⟩
  · obtain ⟨p1, p2, p3, p4, p5⟩ := r.pr q hq
    refine ⟨p1, p2, p3, p4, fun j es z1 z2 => ?_⟩
    have z2 : (w.σ.set i (some (V.ref a)))[j]? = some (some (.ref q.1)) := z2
    have hj : j < w.σ.length := by rw [r.sl.len]; exact set_lt z1
    rcases set_get z1 with ⟨e1, e2⟩ | ⟨e1, e2⟩
    · subst e1
      rw [List.getElem?_set_self hj] at z2
      cases z2
      exact h7 q hq rfl
    · rw [List.getElem?_set_ne (Ne.symm e1)] at z2
      exact p5 j es e2 z2
/-- the list that slot i owns changes -/
theorem Rel.mut (r : Rel K pn w) {i : Nat} {a : Addr} {es ds : List D} {vs : List V} (hi : w.s.sl[i]? = some (.own es)) (ha : w.σ[i]? = some (some (.ref a))) (h : Reps K w.G vs ds) : Rel K pn { w with H := upd w.H a (.lst vs), s := w.s.put i (.own ds) } := by
  obtain ⟨b, us, z1, z2, z3, z4, z5, z6⟩ := r.sl.own i es hi
  rw [ha] at z1
  cases z1
  have hil : i < w.s.sl.length := (List.getElem?_eq_some_iff.mp hi).1
  refine ⟨fun c u q => ?_, ⟨r.le.g, r.le.nw, r.le.fz, fun c u q n t => ?_, fun c u q => ?_, fun c ps q => ?_⟩, ⟨r.st.len, fun n c u q1 q2 => (r.st.at_ n c u q1 q2).mono (.refl _) fun x q => ?_, r.st.nof, r.st.nd⟩, ⟨by show w.σ.length = (w.s.sl.set i (.own ds)).length; rw [List.length_set]; exact r.sl.len, fun j e q => ?_, fun j fs q => ?_, fun j k fs gs c q1 q2 q3 q4 => ?_, fun j x q => ?_⟩, fun q hq => ?_, r.tb.step (.refl _) fun P ps z f a2 h => ⟨f, a2, (upd_ne (show P ≠ a from fun e => z (e ▸ z6))).trans h⟩⟩
  · have q : w.G.F c = some u := q
    exact (upd_ne (show c ≠ a from fun e => by rw [e, z4] at q; cases q)).trans (r.ex c u q)
  · have q : w.H0 c = some u := q
    exact (upd_ne (show c ≠ a from fun e => by rw [e, z6] at q; cases q)).trans (r.le.kp c u q n t)
  · obtain ⟨u', q'⟩ := r.le.dm c u q
    by_cases e : c = a
    · exact ⟨.lst vs, by subst e; exact upd_same⟩
    · exact ⟨u', (upd_ne e).trans q'⟩
  · obtain ⟨qs, q'⟩ := r.le.tt c ps q
    have q : w.H0 c = some (.tbl ps) := q
    exact ⟨qs, (upd_ne (show c ≠ a from fun e => by rw [e, z6] at q; cases q)).trans q'⟩
  · have m : c ∈ w.G.ad := List.mem_of_getElem? q1
    exact (upd_ne (show c ≠ a from fun e => z5 (e ▸ m))).trans q
  · rcases set_get q with ⟨e1, e2⟩ | ⟨e1, e2⟩
    · cases e2
    · exact r.sl.imm j e e2
  · rcases set_get q with ⟨e1, e2⟩ | ⟨e1, e2⟩
    · subst e1; cases e2
      exact ⟨a, vs, ha, upd_same, h, z4, z5, z6⟩
    · obtain ⟨c, ws, y1, y2, y3⟩ := r.sl.own j fs e2
      refine ⟨c, ws, y1, ?_, y3⟩
      exact (upd_ne (show c ≠ a from fun e => e1 (r.sl.dis j i fs es a e2 hi (e ▸ y1) ha))).trans y2
  · rcases set_get q1 with ⟨e1, e2⟩ | ⟨e1, e2⟩
    · subst e1
      rcases set_get q2 with ⟨e3, e4⟩ | ⟨e3, e4⟩
      · exact e3.symm
      · exact r.sl.dis j k es gs c hi e4 q3 q4
    · rcases set_get q2 with ⟨e3, e4⟩ | ⟨e3, e4⟩
      · subst e3
        exact r.sl.dis j k fs es c e2 hi q3 q4
      · exact r.sl.dis j k fs gs c e2 e4 q3 q4
  · rcases set_get q with ⟨e1, e2⟩ | ⟨e1, e2⟩
    · cases e2
    · exact r.sl.xn j x e2
  · obtain ⟨p1, p2, p3, p4, p5⟩ := r.pr q hq
    have nq : q.1 ≠ a := fun e => p5 i es hi (e ▸ ha)
    refine ⟨(upd_ne nq).trans p1, p2, p3, p4, fun j fs h1 h2 => ?_⟩
    rcases set_get h1 with ⟨e1, e2⟩ | ⟨e1, e2⟩
    · subst e1; exact p5 j es hi h2
    · exact p5 j fs e2 h2
/-- the list that slot i owns is frozen -/
theorem Rel.froz (r : Rel K pn w) {i : Nat} {es : List D} (hi : w.s.sl[i]? = some (.own es)) : ∃ G' v, w.G.le G' ∧ w.σ[i]? = some (some v) ∧ Rep K G' v (.lst es) ∧ Rel K pn { w with G := G', s := w.s.put i (.imm (.lst es)) } := by
  obtain ⟨a, vs, z1, z2, z3, z4, z5, z6⟩ := r.sl.own i es hi
  have hil : i < w.s.sl.length := (List.getElem?_eq_some_iff.mp hi).1
  have g := gle_upd (o := .lst vs) z4
  have rp : Rep K { w.G with F := upd w.G.F a (.lst vs) } (.ref a) (.lst es) := .lst upd_same (z3.mono g)
  -- first forget the slot, then freeze
  have r1 : Rel K pn { w with s := w.s.put i .emp } := by
    have q := r.clr (i := i) (v := some (.ref a))
    have e : w.σ.set i (some (.ref a)) = w.σ := by
      apply List.ext_getElem?
      intro n
      by_cases hn : n = i
      · subst hn; rw [z1]; exact List.getElem?_set_self (List.getElem?_eq_some_iff.mp z1).1
      · exact List.getElem?_set_ne (Ne.symm hn)
    rw [e] at q
    exact q
  have r2 := Rel.freeze (w := { w with s := w.s.put i .emp }) r1 z2 z4 z5 z6 (fun j fs q1 q2 => by
    rcases set_get q1 with ⟨e1, e2⟩ | ⟨e1, e2⟩
    · cases e2
    · exact e1 (r.sl.dis j i fs es a e2 hi q2 z1)) (fun q hq e => (r.pr q hq).2.2.2.2 i es hi (e ▸ z1))
  have r3 := Rel.set (i := i) r2 rp
  refine ⟨_, .ref a, g, z1, rp, ?_⟩
  have e : w.σ.set i (some (.ref a)) = w.σ := by
    apply List.ext_getElem?
    intro n
    by_cases hn : n = i
    · subst hn; rw [z1]; exact List.getElem?_set_self (List.getElem?_eq_some_iff.mp z1).1
    · exact List.getElem?_set_ne (Ne.symm hn)
  have e2 : (w.s.put i .emp).put i (.imm (.lst es)) = w.s.put i (.imm (.lst es)) := by unfold S.put; simp
  simp only [e, e2] at r3
  exact r3
/-- a cell of the store changes -/
theorem Rel.cell (r : Rel K pn w) {n : Nat} {a : Addr} {o : Ob} {u : HO} (ha : w.G.ad[n]? = some a) (ho : ∀ H', H' a = some u → ObRel K w.G H' a o) (hx : ∀ φ, w.H a ≠ some (.ext φ)) : Rel K pn { w with H := upd w.H a u, s := { w.s with st := w.s.st.set n o } } := by
  have m : a ∈ w.G.ad := List.mem_of_getElem? ha
  have hF : w.G.F a = none := (r.st.nof a m).elim id fun ⟨φ, z⟩ => absurd (r.ex _ _ z) (hx φ)
  refine ⟨fun c x q => ?_, ⟨r.le.g, r.le.nw, r.le.fz, fun c x q k t => ?_, fun c x q => ?_, fun c ps q => ?_⟩, ⟨by show w.G.ad.length = (w.s.st.set n o).length; rw [List.length_set]; exact r.st.len, fun j c x q1 q2 => ?_, r.st.nof, r.st.nd⟩, ⟨r.sl.len, r.sl.imm, fun i ds q => ?_, r.sl.dis, r.sl.xn⟩, fun q hq => ?_, r.tb.step (.refl _) fun P ps z f a2 h => ⟨f, a2, (upd_ne (show P ≠ a from fun e => a2 (e ▸ m))).trans h⟩⟩
  · have q : w.G.F c = some x := q
    exact (upd_ne (show c ≠ a from fun e => by rw [e, hF] at q; cases q)).trans (r.ex c x q)
  · have q : w.H0 c = some x := q
    have nc : c ≠ a := fun e => by
      rcases r.le.nw a m with z | z
      · exact k (e ▸ z)
      · rw [e, z] at q; cases q
    exact (upd_ne nc).trans (r.le.kp c x q k t)
  · obtain ⟨u', q'⟩ := r.le.dm c x q
    by_cases e : c = a
    · exact ⟨u, by subst e; exact upd_same⟩
    · exact ⟨u', (upd_ne e).trans q'⟩
  · obtain ⟨qs, q'⟩ := r.le.tt c ps q
    have hl : n < w.s.st.length := by rw [← r.st.len]; exact (List.getElem?_eq_some_iff.mp ha).1
    have nt := (r.st.at_ n a w.s.st[n] ha (List.getElem?_eq_getElem hl)).noTbl
    have q' : w.H c = some (.tbl qs) := q'
    exact ⟨qs, (upd_ne (show c ≠ a from fun e => nt qs (e ▸ q'))).trans q'⟩
  · rcases set_get q2 with ⟨e1, e2⟩ | ⟨e1, e2⟩
    · subst e1; subst e2
      have z1 : w.G.ad[j]? = some c := q1
      rw [ha] at z1; cases z1
      exact ho _ upd_same
    · have nc : c ≠ a := fun e => by
        subst e
        obtain ⟨l1, g1⟩ := List.getElem?_eq_some_iff.mp (show w.G.ad[j]? = some c from q1)
        obtain ⟨l2, g2⟩ := List.getElem?_eq_some_iff.mp ha
        exact e1 ((List.getElem_inj r.st.nd).mp (g1.trans g2.symm))
      exact (r.st.at_ j c x q1 e2).mono (.refl _) fun y h => (upd_ne nc).trans h
  · obtain ⟨c, vs, h1, h2, h3, h4, h5, h6⟩ := r.sl.own i ds q
    refine ⟨c, vs, h1, ?_, h3, h4, h5, h6⟩
    exact (upd_ne (show c ≠ a from fun e => h5 (e ▸ m))).trans h2
  · obtain ⟨p1, p2, p3, p4⟩ := r.pr q hq
    exact ⟨(upd_ne (show q.1 ≠ a from fun e => p3.1 (e ▸ m))).trans p1, p2, p3, p4⟩
/-- a new cell -/
theorem Rel.newCell (r : Rel K pn w) {p : Addr} {o : Ob} {u : HO} (hp : w.H p = none) (ho : ∀ G' H', w.G.le G' → H' p = some u → ObRel K G' H' p o) :
    w.G.le { w.G with ad := w.G.ad ++ [p] } ∧ Rel K pn { w with G := { w.G with ad := w.G.ad ++ [p] }, H := upd w.H p u, s := { w.s with st := w.s.st ++ [o] } } ∧ Rep K { w.G with ad := w.G.ad ++ [p] } (.ref p) (.loc w.s.st.length) := by
  have g : w.G.le { w.G with ad := w.G.ad ++ [p] } := ⟨fun _ _ h => h, fun n a h => by
    show (w.G.ad ++ [p])[n]? = some a
    rw [List.getElem?_append_left (List.getElem?_eq_some_iff.mp h).1]
    exact h⟩
  have up : ∀ a x, w.H a = some x → upd w.H p u a = some x := fun a x h => by rw [upd_ne (ne_of_none h hp)]; exact h
  have tb' := r.tb.step (H' := upd w.H p u) g (fun P ps z f a2 h => ⟨f, (fun hm => by
    rcases List.mem_append.mp hm with e | e
    · exact a2 e
    · have e : P = p := List.mem_singleton.mp e
      have h : w.H P = some (.tbl ps) := h
      rw [e, hp] at h; cases h), up P _ h⟩)
  have na := r.noA hp
  refine ⟨g, ⟨fun a x h => up a x (r.ex a x h), ⟨r.le.g.trans g, fun a h => ?_, r.le.fz, fun a x h n t => up a x (r.le.kp a x h n t), fun a x h => ?_, fun a ps h => let ⟨qs, h'⟩ := r.le.tt a ps h; ⟨qs, up a _ h'⟩⟩, ⟨?_, fun n a x h1 h2 => ?_, fun a h => ?_, ?_⟩, ⟨r.sl.len, fun i d h => ?_, fun i ds h => ?_, r.sl.dis, fun i x h => ?_⟩, fun q hq => ?_, tb'⟩, ?_⟩
  · rcases List.mem_append.mp h with z | z
    · exact r.le.nw a z
    · rw [List.mem_singleton.mp z]; exact .inr (r.no0 hp)
  · obtain ⟨x', h'⟩ := r.le.dm a x h
    exact ⟨x', up a x' h'⟩
  · show (w.G.ad ++ [p]).length = (w.s.st ++ [o]).length
    rw [List.length_append, List.length_append, r.st.len]; rfl
  · have h1 : (w.G.ad ++ [p])[n]? = some a := h1
    have h2 : (w.s.st ++ [o])[n]? = some x := h2
    by_cases hn : n < w.G.ad.length
    · rw [List.getElem?_append_left hn] at h1
      rw [List.getElem?_append_left (by rw [← r.st.len]; exact hn)] at h2
      exact (r.st.at_ n a x h1 h2).mono g (up a)
    · rw [List.getElem?_append_right (by omega)] at h1
      rw [List.getElem?_append_right (by rw [← r.st.len]; omega), ← r.st.len] at h2
      have e : n - w.G.ad.length = 0 := by
        have := (List.getElem?_eq_some_iff.mp h1).1
        simp at this; omega
      rw [e] at h1 h2
      simp at h1 h2
      subst h1 h2
      exact ho _ _ g upd_same
  · rcases List.mem_append.mp h with z | z
    · exact r.st.nof a z
    · rw [List.mem_singleton.mp z]; exact .inl (r.noF hp)
  · show (w.G.ad ++ [p]).Nodup
    rw [List.nodup_append]
    exact ⟨r.st.nd, by simp, fun a ha b hb e => by rw [List.mem_singleton.mp hb] at e; exact na (e ▸ ha)⟩
  · obtain ⟨v, h1, h2⟩ := r.sl.imm i d h
    exact ⟨v, h1, h2.mono g⟩
  · obtain ⟨a, vs, h1, h2, h3, h4, h5, h6⟩ := r.sl.own i ds h
    refine ⟨a, vs, h1, up a _ h2, h3.mono g, h4, fun m => ?_, h6⟩
    rcases List.mem_append.mp m with z | z
    · exact h5 z
    · rw [List.mem_singleton.mp z, hp] at h2; cases h2
  · obtain ⟨a, oe, tl, cls, d, h1, h2, h3, h4⟩ := r.sl.xn i x h
    exact ⟨a, oe, tl, cls, d, h1, h2, h3, h4.mono g⟩
  · obtain ⟨p1, p2, p3, p4⟩ := r.pr q hq
    refine ⟨up _ _ p1, p2, ⟨fun m => ?_, p3.2⟩, p4⟩
    rcases List.mem_append.mp m with z | z
    · exact p3.1 z
    · rw [List.mem_singleton.mp z, hp] at p1; cases p1
  · refine .loc ?_
    show (w.G.ad ++ [p])[w.s.st.length]? = some p
    rw [← r.st.len]
    simp
end
end DL
namespace DL
open PySem PySem.Spec L2
def lift (o : Option D) : ME := match o with
  | some d => ret d
  | none => stk
/-- one that stands in a slot; a list that the slot owns is frozen by it -/
def mVar (i : Nat) : ME := fun s => match s.sl[i]? with
  | some (.imm d) => .ok d s
  | some (.own ds) => .ok (.lst ds) (s.put i (.imm (.lst ds)))
  | _ => .stuck
def mC (d : D) : ME := ret d
section
variable {X : Cx} {W : WX}
theorem je_var (i : Nat) {x : Str} {pos : Pos} (hN : X.N[i]? = some x := by rfl) (hv : Vis X.env.scope x := by first | exact Or.inl rfl | exact Or.inr (Or.inl rfl) | exact Or.inr (Or.inr rfl)) (hd : (x == ("__debug__" : Str)) = false := by decide)
    (hcd : (x == ("__classdict__" : Str)) = false := by decide) : JE X W (.Name x pos) (mVar i) := by
  refine PE.imp (pv i hN hv hd hcd) fun σ H Q h => ?_
  obtain ⟨w, rfl, rfl, r, h⟩ := h
  unfold mVar at h
  split at h
  · rename_i d e
    obtain ⟨v, h1, h2⟩ := r.sl.imm i d e
    exact ⟨v, h1, h w.G v w.H (.refl _) r h2⟩
  · rename_i ds e
    obtain ⟨G', v, g, h1, h2, h3⟩ := r.froz e
    exact ⟨v, h1, h G' v w.H g h3 h2⟩
  · exact h.elim
theorem je_c {e : Expr} {v : V} {d : D} (hp : PE X e (tC v)) (hr : ∀ G, Rep X.K G v d) : JE X W e (mC d) := by
  refine PE.imp hp fun σ H Q h => ?_
  obtain ⟨w, rfl, rfl, r, h⟩ := h
  exact h w.G v w.H (.refl _) r (hr _)
theorem je_int {i j pos} : JE X W (.Constant (.int i) j pos) (mC (.int i)) := je_c pe_int fun _ => .int _
theorem je_bl {b j pos} : JE X W (.Constant (.bool b) j pos) (mC (.bl b)) := je_c pe_bl fun _ => .bl _
theorem je_non {j pos} : JE X W (.Constant .none j pos) (mC .non) := je_c pe_non fun _ => .non
theorem je_str {x j pos} : JE X W (.Constant (.str x) j pos) (mC (.str x)) := je_c pe_str fun _ => .str _
/-- a new list, frozen -/
def mFz (m : MA) : ME := bnd m fun ds => ret (.lst ds)
theorem je_fz {e : Expr} {m : MA} (h : JF X W e m) : JE X W e (mFz m) := by
  refine PE.imp h fun σ H Q h => ?_
  obtain ⟨w, rfl, rfl, r, h⟩ := h
  refine run r h fun ds s' G' v H' g r' a h' => ?_
  obtain ⟨G2, g2, r2, p⟩ := AF.rep r' a
  exact h' G2 v H' g2 r2 p
def mNil : MA := ret []
def mCons (m : ME) (ms : MA) : MA := bnd m fun d => bnd ms fun ds => ret (d :: ds)
theorem bnd_ok {α β : Type} {m : S → R α} {k : α → S → R β} {s s' : S} {b : β} (h : bnd m k s = .ok b s') : ∃ a s1, m s = .ok a s1 ∧ k a s1 = .ok b s' := by
  unfold bnd at h
  cases hm : m s with
  | ok a s1 => rw [hm] at h; exact ⟨a, s1, rfl, h⟩
  | exc x s1 => rw [hm] at h; cases h
  | stuck => rw [hm] at h; cases h
theorem ja_nil : JA X W [] mNil := by
  refine ⟨PA.imp pa_nil fun σ H Q h => ?_, fun s as s' h => ?_⟩
  · obtain ⟨w, rfl, rfl, r, h⟩ := h
    exact fin r h .nil
  · cases h; rfl
theorem ja_cons {e : Expr} {es : List Expr} {m : ME} {ms : MA} (he : JE X W e m) (hs : JA X W es ms) (hst : starEach (e :: es) X.env = (false, eval e X.env) :: starEach es X.env := by rfl) : JA X W (e :: es) (mCons m ms) := by
  refine ⟨PA.imp (pa_cons he hs.pa hst) fun σ H Q h => ?_, fun s as s' h => ?_⟩
  · obtain ⟨w, rfl, rfl, r, h⟩ := h
    refine run r h fun d s' G' v H' g r' a h' => ?_
    refine run r' h' fun ds s2 G2 vs H2 g2 r2 a2 h2 => ?_
    exact fin r2 h2 (.cons (a.mono g2) a2)
  · obtain ⟨a, s1, h1, h2⟩ := bnd_ok h
    obtain ⟨b, s2, h3, h4⟩ := bnd_ok h2
    cases h4
    rw [List.length_cons, List.length_cons, hs.len _ _ _ h3]
/-- displays -/
def few (n : Nat) : Prop := n ≤ 1000000
instance (n : Nat) : Decidable (few n) := inferInstanceAs (Decidable (n ≤ 1000000))
theorem few.line {n : Nat} (h : few n) : n ≤ sizeLine := Nat.le_trans h (by rw [sizeLine_eq]; decide)
def mTup (m : MA) : ME := bnd m fun ds s => if few ds.length then .ok (.tup ds) s else .stuck
theorem je_tup {es : List Expr} {m : MA} {x1} {pos : Pos} (h : JA X W es m) : JE X W (.Tuple es x1 pos) (mTup m) := by
  refine PE.imp (pe_tup h.pa) fun σ H Q h => ?_
  obtain ⟨w, rfl, rfl, r, h⟩ := h
  refine run r h fun ds s' G' vs H' g r' a h' => ?_
  split at h'
  · rename_i hf
    refine ⟨by rw [Reps.length a]; exact hf.line, fun p hp => ?_⟩
    have hn : G'.F p = none := r'.noF hp
    exact h' _ _ _ (gle_upd hn) (r'.new hp) (.tup upd_same (a.mono (gle_upd hn)))
  · exact h'.elim
def mLst (m : MA) : MA := bnd m fun ds s => if few ds.length then .ok ds s else .stuck
theorem jf_lst {es : List Expr} {m : MA} {pos : Pos} (h : JA X W es m) : JF X W (.List es pos) (mLst m) := by
  refine PE.imp (pe_lst h.pa) fun σ H Q h => ?_
  obtain ⟨w, rfl, rfl, r, h⟩ := h
  refine run r h fun ds s' G' vs H' g r' a h' => ?_
  split at h'
  · rename_i hf
    refine ⟨by rw [Reps.length a]; exact hf.line, fun p hp => ?_⟩
    exact h' _ _ _ (.refl _) (r'.alloc hp) (AF.new r' hp a)
  · exact h'.elim
/-- r does on values what f does on data -/
def R2Ok (K : PySem.W.Frag) (r : R2) (f : D → D → Option D) : Prop := ∀ (pn : List (Addr × Obj)) (w : Wd) (x y : V) (d e z : D) (Q : VK), Rel K pn w → Rep K w.G x d → Rep K w.G y e → f d e = some z →
  (∀ G' v H', w.G.le G' → Rel K pn { w with G := G', H := H' } → Rep K G' v z → Q v H') → r x y w.H Q
def R2OkF (K : PySem.W.Frag) (r : R2) (f : D → D → Option (List D)) : Prop := ∀ (pn : List (Addr × Obj)) (w : Wd) (x y : V) (d e : D) (z : List D) (Q : VK), Rel K pn w → Rep K w.G x d → Rep K w.G y e → f d e = some z →
  (∀ G' v H', w.G.le G' → Rel K pn { w with G := G', H := H' } → AF K { w with G := G', H := H' } v z → Q v H') → r x y w.H Q
def mBin (f : D → D → Option D) (a b : ME) : ME := bnd a fun d => bnd b fun e => lift (f d e)
def mBinF (f : D → D → Option (List D)) (a b : ME) : MA := bnd a fun d => bnd b fun e s => match f d e with
  | some z => .ok z s
  | none => .stuck
theorem r2_run {r : R2} {f : D → D → Option D} {a b : ME} {σ : L2.St} {H : Hp} {Q : VK} (hr : R2Ok X.K r f) (h : tG X.K X.pn W (AR X.K) (mBin f a b) σ H Q) : tOp r (tG X.K X.pn W (AR X.K) a) (tG X.K X.pn W (AR X.K) b) σ H Q := by
  obtain ⟨w, rfl, rfl, r0, h⟩ := h
  refine run r0 h fun d s' G' v H' g r' p h' => ?_
  refine run r' h' fun e s2 G2 u H2 g2 r2 p2 h2 => ?_
  cases hz : f d e with
  | some z =>
    rw [hz] at h2
    exact hr X.pn _ v u d e z Q r2 (p.mono g2) p2 hz fun G3 y H3 g3 r3 p3 => h2 G3 y H3 g3 r3 p3
  | none =>
    rw [hz] at h2
    exact h2.elim
theorem r2_runF {r : R2} {f : D → D → Option (List D)} {a b : ME} {σ : L2.St} {H : Hp} {Q : VK} (hr : R2OkF X.K r f) (h : tG X.K X.pn W (AF X.K) (mBinF f a b) σ H Q) : tOp r (tG X.K X.pn W (AR X.K) a) (tG X.K X.pn W (AR X.K) b) σ H Q := by
  obtain ⟨w, rfl, rfl, r0, h⟩ := h
  refine run r0 h fun d s' G' v H' g r' p h' => ?_
  refine run r' h' fun e s2 G2 u H2 g2 r2 p2 h2 => ?_
  cases hz : f d e with
  | some z =>
    rw [hz] at h2
    exact hr X.pn _ v u d e z Q r2 (p.mono g2) p2 hz fun G3 y H3 g3 r3 p3 => h2 G3 y H3 g3 r3 p3
  | none =>
    rw [hz] at h2
    exact h2.elim
theorem je_bin {op : Operator} {r : R2} {f : D → D → Option D} {a b : Expr} {ma mb : ME} {pos : Pos} (ho : OpR X (binaryOp op) r) (hr : R2Ok X.K r f) (ha : JE X W a ma) (hb : JE X W b mb) : JE X W (.BinOp a op b pos) (mBin f ma mb) :=
  PE.imp (pe_op ho ha hb) fun _ _ _ h => r2_run hr h
theorem jf_bin {op : Operator} {r : R2} {f : D → D → Option (List D)} {a b : Expr} {ma mb : ME} {pos : Pos} (ho : OpR X (binaryOp op) r) (hr : R2OkF X.K r f) (ha : JE X W a ma) (hb : JE X W b mb) : JF X W (.BinOp a op b pos) (mBinF f ma mb) :=
  PE.imp (pe_op ho ha hb) fun _ _ _ h => r2_runF hr h
theorem je_cmp {op : CmpOp} {r : R2} {f : D → D → Option D} {a b : Expr} {ma mb : ME} {pos : Pos} (ho : OpR X (compareOp op) r) (hr : R2Ok X.K r f) (ha : JE X W a ma) (hb : JE X W b mb) (hm : behindInMarks op b = false) : JE X W (.Compare a [op] [b] pos) (mBin f ma mb) :=
  PE.imp (pe_cmpR ho ha hb hm) fun _ _ _ h => r2_run hr h
end
theorem R2Ok.or {K : PySem.W.Frag} {r r' : R2} {f f' : D → D → Option D} (h : R2Ok K r f) (h' : R2Ok K r' f') : R2Ok K (fun x y H Q => r x y H Q ∨ r' x y H Q) (fun d e => (f d e).orElse fun _ => f' d e) := by
  intro pn w x y d e z Q r0 p1 p2 hz k
  cases hf : f d e with
  | some z' =>
    have hz' : z' = z := by simpa [hf] using hz
    subst hz'
    exact .inl (h pn w x y d e z' Q r0 p1 p2 hf k)
  | none =>
    exact .inr (h' pn w x y d e z Q r0 p1 p2 (by simpa [hf] using hz) k)
/-- ints -/
def intF (g : Int → Int → Option D) : D → D → Option D
  | .int i, .int j => g i j
  | _, _ => none
theorem r2_I0 {K : PySem.W.Frag} {g : Int → Int → V} {g' : Int → Int → D} (h : ∀ i j G, Rep K G (g i j) (g' i j)) : R2Ok K (rI0 g) (intF fun i j => some (g' i j)) := by
  intro pn w x y d e z Q r p1 p2 hz k
  unfold intF at hz
  split at hz
  · cases p1; cases p2; cases hz
    exact ⟨_, _, rfl, rfl, k _ _ _ (.refl _) r (h _ _ _)⟩
  · cases hz
theorem r2_I {K : PySem.W.Frag} {C : Int → Int → Prop} {g : Int → Int → V} {g' : Int → Int → Option D} (h : ∀ i j z, g' i j = some z → C i j ∧ ∀ G, Rep K G (g i j) z) : R2Ok K (rI C g) (intF g') := by
  intro pn w x y d e z Q r p1 p2 hz k
  unfold intF at hz
  split at hz
  · cases p1; cases p2
    obtain ⟨hc, hp⟩ := h _ _ _ hz
    exact ⟨_, _, rfl, rfl, hc, k _ _ _ (.refl _) r (hp _)⟩
  · cases hz
section
variable {K : PySem.W.Frag}
def iAdd := intF fun i j => some (.int (i + j))
def iSub := intF fun i j => some (.int (i - j))
/-- within a million bits -/
def bits (i : Int) : Nat := i.natAbs.log2
def iMul := intF fun i j => if bits i + bits j < 1000000 then some (.int (i * j)) else none
def iDiv := intF fun i j => if 0 < j ∧ bits j < 9000 then some (.int (i / j)) else none
def iMod := intF fun i j => if 0 < j then some (.int (i % j)) else none
def iLt := intF fun i j => some (.bl (decide (i < j)))
def iLe := intF fun i j => some (.bl (decide (i ≤ j)))
def iGt := intF fun i j => some (.bl (decide (j < i)))
def iGe := intF fun i j => some (.bl (decide (j ≤ i)))
def iPow := intF fun i j => if 0 ≤ j ∧ j ≤ 1000000 ∧ i.natAbs < 2 ^ 64 then some (.int (i ^ j.toNat)) else none
theorem k_add : R2Ok K (rI0 fun i j => .int (i + j)) iAdd := r2_I0 fun _ _ _ => .int _
theorem k_sub : R2Ok K (rI0 fun i j => .int (i - j)) iSub := r2_I0 fun _ _ _ => .int _
theorem k_mul : R2Ok K (rI CMulW fun i j => .int (i * j)) iMul := r2_I fun i j z h => by
  split at h
  · rename_i c; cases h; exact ⟨c, fun _ => .int _⟩
  · cases h
theorem k_div : R2Ok K (rI CDivW fun i j => .int (i / j)) iDiv := r2_I fun i j z h => by
  split at h
  · rename_i c; cases h; exact ⟨c, fun _ => .int _⟩
  · cases h
theorem k_mod : R2Ok K (rI (fun _ j => 0 < j) fun i j => .int (i % j)) iMod := r2_I fun i j z h => by
  split at h
  · rename_i c; cases h; exact ⟨c, fun _ => .int _⟩
  · cases h
theorem k_pow : R2Ok K (rI CPow fun i j => .int (i ^ j.toNat)) iPow := r2_I fun i j z h => by
  split at h
  · rename_i c; cases h; exact ⟨c, fun _ => .int _⟩
  · cases h
theorem k_lt : R2Ok K (rI0 fun i j => .bl (decide (i < j))) iLt := r2_I0 fun _ _ _ => .bl _
theorem k_le : R2Ok K (rI0 fun i j => .bl (decide (i ≤ j))) iLe := r2_I0 fun _ _ _ => .bl _
theorem k_gt : R2Ok K (rI0 fun i j => .bl (decide (j < i))) iGt := r2_I0 fun _ _ _ => .bl _
theorem k_ge : R2Ok K (rI0 fun i j => .bl (decide (j ≤ i))) iGe := r2_I0 fun _ _ _ => .bl _
end
def tru : D → Option Bool
  | .non => some false
  | .bl b => some b
  | .int i => some (i != 0)
  | .str x => if few x.length then some ((x.length : Int) != 0) else none
  | .tup xs => some (!xs.isEmpty)
  | .lst xs => some (!xs.isEmpty)
  | .nod => some false
  | _ => none
theorem Reps.empty {K : PySem.W.Frag} {G : Gh} {vs : List V} {ds : List D} (h : Reps K G vs ds) : vs.isEmpty = ds.isEmpty := by cases h <;> rfl
theorem tru_of {K : PySem.W.Frag} {pn : List (Addr × Obj)} {w : Wd} {x : V} {d : D} {b : Bool} (r : Rel K pn w) (p : Rep K w.G x d) (h : tru d = some b) : TruV K x w.H b := by
  cases p with
  | non => cases h; rfl
  | bl c => cases h; rfl
  | int i => cases h; rfl
  | str z =>
    have h : (if few z.length then some ((z.length : Int) != 0) else none) = some b := h
    by_cases hf : few z.length
    · rw [if_pos hf] at h; cases h; exact ⟨hf.line, rfl⟩
    · rw [if_neg hf] at h; cases h
  | tup hs q => cases h; exact .inr (.inl ⟨_, tqT r.ex hs, by rw [q.empty]⟩)
  | lst hs q => cases h; exact .inl ⟨_, SqL.of (r.ex _ _ hs), by rw [q.empty]⟩
  | kl hs q => cases h
  | kt hs q => cases h
  | nod hs =>
    cases h
    exact .inr (.inr ⟨[], r.ex _ _ hs, rfl⟩)
  | loc hs => cases h
  | ins hs q => cases h
  | cla c => cases h
end DL
namespace DL
open PySem PySem.Spec L2
/-- things that are not two tuples, not two lists -/
def sc : D → D → Option Bool
  | .non, .non => some true
  | .bl a, .bl b => some (a == b)
  | .int a, .int b => some (a == b)
  | .str a, .str b => some (a == b)
  | .bl a, .int b => some ((if a then 1 else 0) == b)
  | .int a, .bl b => some (a == (if b then 1 else 0))
  | .non, .bl _ => some false | .non, .int _ => some false | .non, .str _ => some false | .non, .tup _ => some false | .non, .lst _ => some false
  | .bl _, .non => some false | .bl _, .str _ => some false | .bl _, .tup _ => some false | .bl _, .lst _ => some false
  | .int _, .non => some false | .int _, .str _ => some false | .int _, .tup _ => some false | .int _, .lst _ => some false
  | .str _, .non => some false | .str _, .bl _ => some false | .str _, .int _ => some false | .str _, .tup _ => some false | .str _, .lst _ => some false
  | .tup _, .non => some false | .tup _, .bl _ => some false | .tup _, .int _ => some false | .tup _, .str _ => some false | .tup _, .lst _ => some false
  | .lst _, .non => some false | .lst _, .bl _ => some false | .lst _, .int _ => some false | .lst _, .str _ => some false | .lst _, .tup _ => some false
  | _, _ => none
def deqs (f : D → D → Option Bool) : List D → List D → Option Bool
  | [], [] => some true
  | x :: xs, y :: ys => match f x y, deqs f xs ys with
    | some b, some c => some (b && c)
    | _, _ => none
  | _, _ => some false
def deq : Nat → D → D → Option Bool
  | n + 1, .tup xs, .tup ys => deqs (deq n) xs ys
  | n + 1, .lst xs, .lst ys => deqs (deq n) xs ys
  | _, .nod, .nod => some true
  | _, d, e => sc d e
theorem deqs_all {f : D → D → Option Bool} : ∀ {xs ys : List D} {b : Bool}, deqs f xs ys = some b → (∀ (j : Nat) x y, xs[j]? = some x → ys[j]? = some y → ∃ c, f x y = some c) ∧ b = (((List.range (min xs.length ys.length)).all fun j => (match xs[j]?, ys[j]? with | some x, some y => (f x y).getD false | _, _ => false)) && xs.length == ys.length)
  | [], [], b, h => by cases h; exact ⟨fun j x y h => by simp at h, by simp⟩
  | [], y :: ys, b, h => by cases h; exact ⟨fun j x y h => by simp at h, by simp⟩
  | x :: xs, [], b, h => by cases h; exact ⟨fun j x y _ h => by simp at h, by simp⟩
  | x :: xs, y :: ys, b, h => by
    unfold deqs at h
    cases h1 : f x y with
    | none => rw [h1] at h; cases h
    | some c =>
      cases h2 : deqs f xs ys with
      | none => rw [h1, h2] at h; cases h
      | some c2 =>
        rw [h1, h2] at h
        cases h
        obtain ⟨g1, g2⟩ := deqs_all h2
        refine ⟨fun j a b ha hb => ?_, ?_⟩
        · cases j with
          | zero => simp at ha hb; subst ha hb; exact ⟨c, h1⟩
          | succ j => exact g1 j a b (by simpa using ha) (by simpa using hb)
        · rw [g2]
          have e : min (x :: xs).length (y :: ys).length = min xs.length ys.length + 1 := by simp only [List.length_cons]; omega
          rw [e, List.range_succ_eq_map, List.all_cons, List.all_map]
          simp only [List.getElem?_cons_zero, h1, Option.getD_some, List.length_cons, Bool.and_assoc]
          congr 2
          simp
section
variable {X : Cx} {pins : List (Addr × Obj)} {σ : L2.St} {s : Shared} {pn : List (Addr × Obj)} {w : Wd}
theorem rep_tup (I : Inv X pins σ w.H s) (r : Rel X.K pn w) {x : V} {u : Value} {ds : List D} (p : Rep X.K w.G x (.tup ds)) (q : RelV x u) : ∃ a vs its, u = .ref a ∧ x = .ref a ∧ Reps X.K w.G vs ds ∧ Vals vs its ∧ s.heap.IsTuple a its.toArray := by
  cases p with
  | tup h rs =>
    cases q
    obtain ⟨its, rv, ht, hz⟩ := I.tuple (tqT r.ex h)
    exact ⟨_, _, its, rfl, rfl, rs, rv, ht⟩
theorem rep_lst (I : Inv X pins σ w.H s) (r : Rel X.K pn w) {x : V} {u : Value} {ds : List D} (p : Rep X.K w.G x (.lst ds)) (q : RelV x u) : ∃ a vs its, u = .ref a ∧ x = .ref a ∧ Reps X.K w.G vs ds ∧ Vals vs its ∧ s.heap.IsList a its.toArray := by
  cases p with
  | lst h rs =>
    cases q
    obtain ⟨its, rv, ht, hz⟩ := I.list (SqL.of (r.ex _ _ h))
    exact ⟨_, _, its, rfl, rfl, rs, rv, ht.isList⟩
theorem sc_rc (I : Inv X pins σ w.H s) (r : Rel X.K pn w) {x y : V} {u v : Value} {d e : D} {b : Bool} (h : sc d e = some b) (p1 : Rep X.K w.G x d) (p2 : Rep X.K w.G y e) (q1 : RelV x u) (q2 : RelV y v) {A : Around} (hu : A.units < cLine) :
    SeqAt.RcAt A s u v b ∧ SeqAt.EqAt A s u v b := by
  unfold sc at h
  split at h <;> (try cases h)
  · cases p1; cases p2; cases q1; cases q2; exact ⟨.none_none, SeqAt.EqAt.same _⟩
  · cases p1; cases p2; cases q1; cases q2; exact ⟨.bool_bool _ _, .bool_bool _ _⟩
  · cases p1; cases p2; obtain ⟨t, rfl⟩ := q1; obtain ⟨t', rfl⟩ := q2; exact ⟨.int_int _ _ _ _, .int_int _ _ _ _⟩
  · cases p1; cases p2; obtain ⟨t, rfl⟩ := q1; obtain ⟨t', rfl⟩ := q2; exact ⟨.str_str _ _ _ _, .str_str _ _ _ _⟩
  · cases p1; cases p2; cases q1; obtain ⟨t', rfl⟩ := q2; exact ⟨.bool_int _ _ _, .bool_int _ _ _⟩
  · cases p1; cases p2; obtain ⟨t, rfl⟩ := q1; cases q2; exact ⟨.int_bool _ _ _, .int_bool _ _ _⟩
  · cases p1; cases p2; cases q1; cases q2; exact ⟨.none_bool _, .none_bool _⟩
  · cases p1; cases p2; cases q1; obtain ⟨t', rfl⟩ := q2; exact ⟨.none_int _ _, .none_int _ _⟩
  · cases p1; cases p2; cases q1; obtain ⟨t', rfl⟩ := q2; exact ⟨.none_str _ _, .none_str _ _⟩
  · obtain ⟨a, vs, its, rfl, rfl, _, _, hl⟩ := rep_tup I r p2 q2; cases p1; cases q1; exact ⟨.none_tuple hl hu, .none_tuple hl hu⟩
  · obtain ⟨a, vs, its, rfl, rfl, _, _, hl⟩ := rep_lst I r p2 q2; cases p1; cases q1; exact ⟨.none_list hl hu, .none_list hl hu⟩
  · cases p1; cases p2; cases q1; cases q2; exact ⟨.bool_none _, .bool_none _⟩
  · cases p1; cases p2; cases q1; obtain ⟨t', rfl⟩ := q2; exact ⟨.bool_str _ _ _, .bool_str _ _ _⟩
  · obtain ⟨a, vs, its, rfl, rfl, _, _, hl⟩ := rep_tup I r p2 q2; cases p1; cases q1; exact ⟨.bool_tuple _ hl hu, .bool_tuple _ hl hu⟩
  · obtain ⟨a, vs, its, rfl, rfl, _, _, hl⟩ := rep_lst I r p2 q2; cases p1; cases q1; exact ⟨.bool_list _ hl hu, .bool_list _ hl hu⟩
  · cases p1; cases p2; obtain ⟨t, rfl⟩ := q1; cases q2; exact ⟨.int_none _ _, .int_none _ _⟩
  · cases p1; cases p2; obtain ⟨t, rfl⟩ := q1; obtain ⟨t', rfl⟩ := q2; exact ⟨.int_str _ _ _ _, .int_str _ _ _ _⟩
  · obtain ⟨a, vs, its, rfl, rfl, _, _, hl⟩ := rep_tup I r p2 q2; cases p1; obtain ⟨t, rfl⟩ := q1; exact ⟨.int_tuple _ _ hl hu, .int_tuple _ _ hl hu⟩
  · obtain ⟨a, vs, its, rfl, rfl, _, _, hl⟩ := rep_lst I r p2 q2; cases p1; obtain ⟨t, rfl⟩ := q1; exact ⟨.int_list _ _ hl hu, .int_list _ _ hl hu⟩
  · cases p1; cases p2; obtain ⟨t, rfl⟩ := q1; cases q2; exact ⟨.str_none _ _, .str_none _ _⟩
  · cases p1; cases p2; obtain ⟨t, rfl⟩ := q1; cases q2; exact ⟨.str_bool _ _ _, .str_bool _ _ _⟩
  · cases p1; cases p2; obtain ⟨t, rfl⟩ := q1; obtain ⟨t', rfl⟩ := q2; exact ⟨.str_int _ _ _ _, .str_int _ _ _ _⟩
  · obtain ⟨a, vs, its, rfl, rfl, _, _, hl⟩ := rep_tup I r p2 q2; cases p1; obtain ⟨t, rfl⟩ := q1; exact ⟨.str_tuple _ _ hl hu, .str_tuple _ _ hl hu⟩
  · obtain ⟨a, vs, its, rfl, rfl, _, _, hl⟩ := rep_lst I r p2 q2; cases p1; obtain ⟨t, rfl⟩ := q1; exact ⟨.str_list _ _ hl hu, .str_list _ _ hl hu⟩
  · obtain ⟨a, vs, its, rfl, rfl, _, _, hl⟩ := rep_tup I r p1 q1; cases p2; cases q2; exact ⟨.tuple_none hl hu, .tuple_none hl hu⟩
  · obtain ⟨a, vs, its, rfl, rfl, _, _, hl⟩ := rep_tup I r p1 q1; cases p2; cases q2; exact ⟨.tuple_bool _ hl hu, .tuple_bool _ hl hu⟩
  · obtain ⟨a, vs, its, rfl, rfl, _, _, hl⟩ := rep_tup I r p1 q1; cases p2; obtain ⟨t, rfl⟩ := q2; exact ⟨.tuple_int _ _ hl hu, .tuple_int _ _ hl hu⟩
  · obtain ⟨a, vs, its, rfl, rfl, _, _, hl⟩ := rep_tup I r p1 q1; cases p2; obtain ⟨t, rfl⟩ := q2; exact ⟨.tuple_str _ _ hl hu, .tuple_str _ _ hl hu⟩
  · obtain ⟨a, vs, its, rfl, rfl, _, _, hl⟩ := rep_tup I r p1 q1; obtain ⟨a', vs', its', rfl, rfl, _, _, hl'⟩ := rep_lst I r p2 q2; exact ⟨.tuple_list hl hl' hu, .tuple_list hl hl' hu⟩
  · obtain ⟨a, vs, its, rfl, rfl, _, _, hl⟩ := rep_lst I r p1 q1; cases p2; cases q2; exact ⟨.list_none hl hu, .list_none hl hu⟩
  · obtain ⟨a, vs, its, rfl, rfl, _, _, hl⟩ := rep_lst I r p1 q1; cases p2; cases q2; exact ⟨.list_bool _ hl hu, .list_bool _ hl hu⟩
  · obtain ⟨a, vs, its, rfl, rfl, _, _, hl⟩ := rep_lst I r p1 q1; cases p2; obtain ⟨t, rfl⟩ := q2; exact ⟨.list_int _ _ hl hu, .list_int _ _ hl hu⟩
  · obtain ⟨a, vs, its, rfl, rfl, _, _, hl⟩ := rep_lst I r p1 q1; cases p2; obtain ⟨t, rfl⟩ := q2; exact ⟨.list_str _ _ hl hu, .list_str _ _ hl hu⟩
  · obtain ⟨a, vs, its, rfl, rfl, _, _, hl⟩ := rep_lst I r p1 q1; obtain ⟨a', vs', its', rfl, rfl, _, _, hl'⟩ := rep_tup I r p2 q2; exact ⟨.list_tuple hl hl' hu, .list_tuple hl hl' hu⟩
end
end DL
namespace DL
open PySem PySem.Spec L2
theorem deq_cases {n : Nat} {d e : D} {b : Bool} (h : deq n d e = some b) : (∃ m xs ys, n = m + 1 ∧ d = .tup xs ∧ e = .tup ys ∧ deqs (deq m) xs ys = some b) ∨ (∃ m xs ys, n = m + 1 ∧ d = .lst xs ∧ e = .lst ys ∧ deqs (deq m) xs ys = some b) ∨ (d = .nod ∧ e = .nod ∧ b = true) ∨ sc d e = some b := by
  unfold deq at h
  split at h
  · exact .inl ⟨_, _, _, rfl, rfl, rfl, h⟩
  · exact .inr (.inl ⟨_, _, _, rfl, rfl, rfl, h⟩)
  · cases h; exact .inr (.inr (.inl ⟨rfl, rfl, rfl⟩))
  · exact .inr (.inr (.inr h))
section
variable {X : Cx} {pins : List (Addr × Obj)} {σ : L2.St} {s : Shared} {pn : List (Addr × Obj)} {w : Wd}
theorem not_both (I : Inv X pins σ w.H s) (r : Rel X.K pn w) {x : V} {ds es : List D} (p : Rep X.K w.G x (.tup ds)) (q : Rep X.K w.G x (.lst es)) : False := by
  cases p with
  | tup h rs =>
    cases q with
    | lst h' rs' =>
      obtain ⟨its, rv, ht, hz⟩ := I.tuple (tqT r.ex h)
      obtain ⟨its', rv', ht', hz'⟩ := I.list (SqL.of (r.ex _ _ h'))
      exact SeqAt.ne_of_list_tuple ht'.isList ht rfl
theorem sc_self (I : Inv X pins σ w.H s) (r : Rel X.K pn w) {x : V} {d e : D} {b : Bool} (h : sc d e = some b) (p1 : Rep X.K w.G x d) (p2 : Rep X.K w.G x e) : b = true := by
  unfold sc at h
  split at h <;> first
    | (cases h; done)
    | (exact (not_both I r p1 p2).elim)
    | (exact (not_both I r p2 p1).elim)
    | (cases p1 <;> cases p2 <;> cases h <;> (try simp))
theorem deqs_self {f : D → D → Option Bool} {G : Gh} {K : PySem.W.Frag} (hf : ∀ x d e b, f d e = some b → Rep K G x d → Rep K G x e → b = true) : ∀ {vs : List V} {ds es : List D} {b : Bool}, deqs f ds es = some b → Reps K G vs ds → Reps K G vs es → b = true
  | _, _, _, _, h, .nil, .nil => by cases h; rfl
  | _ :: _, d :: ds, d' :: ds', b, h, .cons p1 r1, .cons p2 r2 => by
    unfold deqs at h
    cases h1 : f d d' with
    | none => rw [h1] at h; cases h
    | some c =>
      cases h2 : deqs f ds ds' with
      | none => rw [h1, h2] at h; cases h
      | some c2 =>
        rw [h1, h2] at h
        cases h
        rw [hf _ _ _ _ h1 p1 p2, deqs_self hf h2 r1 r2]; rfl
theorem deq_self (I : Inv X pins σ w.H s) (r : Rel X.K pn w) : ∀ (n : Nat) (x : V) (d e : D) (b : Bool), deq n d e = some b → Rep X.K w.G x d → Rep X.K w.G x e → b = true := by
  intro n
  induction n with
  | zero =>
    intro x d e b h p1 p2
    rcases deq_cases h with ⟨m, xs, ys, hn, _⟩ | ⟨m, xs, ys, hn, _⟩ | ⟨rfl, rfl, rfl⟩ | hs
    · cases hn
    · cases hn
    · rfl
    · exact sc_self I r hs p1 p2
  | succ n ih =>
    intro x d e b h p1 p2
    rcases deq_cases h with ⟨m, xs, ys, hn, rfl, rfl, hs⟩ | ⟨m, xs, ys, hn, rfl, rfl, hs⟩ | ⟨rfl, rfl, rfl⟩ | hs
    · cases hn
      cases p1 with
      | tup h1 r1 =>
        cases p2 with
        | tup h2 r2 =>
          have e := I.tuple_inj (tqT r.ex h1) (tqT r.ex h2)
          subst e
          exact deqs_self ih hs r1 r2
    · cases hn
      cases p1 with
      | lst h1 r1 =>
        cases p2 with
        | lst h2 r2 =>
          have e := I.list_inj (SqL.of (r.ex _ _ h1)) (SqL.of (r.ex _ _ h2))
          subst e
          exact deqs_self ih hs r1 r2
    · rfl
    · exact sc_self I r hs p1 p2
theorem vals_get {vs : List V} {its : List Value} {j : Nat} {u : Value} (r : Vals vs its) (h : its[j]? = some u) : ∃ v, vs[j]? = some v ∧ RelV v u := by
  have hl : j < vs.length := by rw [r.length]; exact (List.getElem?_eq_some_iff.mp h).1
  obtain ⟨u', h1, h2⟩ := r.get (List.getElem?_eq_getElem hl)
  rw [h] at h1; cases h1
  exact ⟨_, List.getElem?_eq_getElem hl, h2⟩
/-- the items' trees -/
theorem items_tree {n : Nat} {xs ys : List D} {b : Bool} {vs us : List V} {its jts : List Value} (hs : deqs (deq n) xs ys = some b) (r1 : Reps X.K w.G vs xs) (r2 : Reps X.K w.G us ys) (q1 : Vals vs its) (q2 : Vals us jts)
    (ih : ∀ x y d e c u v, deq n d e = some c → Rep X.K w.G x d → Rep X.K w.G y e → RelV x u → RelV y v → PySem.W.EqTree X.prog X.w s (n + 1) u v c) :
    (∀ j (h1 : j < its.toArray.size) (h2 : j < jts.toArray.size), PySem.W.EqTree X.prog X.w s (n + 1) its.toArray[j] jts.toArray[j] (match xs[j]?, ys[j]? with | some x, some y => (deq n x y).getD false | _, _ => false)) ∧
      b = (((List.range (min its.toArray.size jts.toArray.size)).all fun j => (match xs[j]?, ys[j]? with | some x, some y => (deq n x y).getD false | _, _ => false)) && its.toArray.size == jts.toArray.size) := by
  obtain ⟨g1, g2⟩ := deqs_all hs
  have e1 : xs.length = its.toArray.size := by rw [List.size_toArray, ← q1.length, r1.length]
  have e2 : ys.length = jts.toArray.size := by rw [List.size_toArray, ← q2.length, r2.length]
  refine ⟨fun j h1 h2 => ?_, by rw [← e1, ← e2]; exact g2⟩
  have k1 : its[j]? = some its.toArray[j] := by rw [List.getElem?_eq_getElem (by omega)]; simp
  have k2 : jts[j]? = some jts.toArray[j] := by rw [List.getElem?_eq_getElem (by omega)]; simp
  obtain ⟨v, v1, v2⟩ := vals_get q1 k1
  obtain ⟨u, u1, u2⟩ := vals_get q2 k2
  obtain ⟨d, d1, d2⟩ := r1.get' v1
  obtain ⟨e, f1, f2⟩ := r2.get' u1
  obtain ⟨c, hc⟩ := g1 j d e d1 f1
  rw [d1, f1]
  simp only [hc, Option.getD_some]
  exact ih v u d e c _ _ hc d2 f2 v2 u2
theorem deq_tree (I : Inv X pins σ w.H s) (r : Rel X.K pn w) : ∀ (n : Nat) (x y : V) (d e : D) (b : Bool) (u v : Value), deq n d e = some b → Rep X.K w.G x d → Rep X.K w.G y e → RelV x u → RelV y v → PySem.W.EqTree X.prog X.w s (n + 1) u v b := by
  intro n
  induction n with
  | zero =>
    intro x y d e b u v h p1 p2 q1 q2
    rcases deq_cases h with ⟨m, xs, ys, hn, _⟩ | ⟨m, xs, ys, hn, _⟩ | ⟨rfl, rfl, rfl⟩ | hs
    · cases hn
    · cases hn
    · cases p1 with
      | nod h1 =>
        cases p2 with
        | nod h2 =>
          cases q1; cases q2
          rename_i a a'
          by_cases e : a = a'
          · subst e; exact .same
          · obtain ⟨_, hS, vs, kr, m⟩ := I.hok a _ (r.ex _ _ h1)
            obtain ⟨_, hS', vs', kr', m'⟩ := I.hok a' _ (r.ex _ _ h2)
            cases kr; cases kr'
            exact .dicts (e := fun _ => true) e hS hS' m m' fun k v y hm => by cases hm
    · exact .leaf fun A hu => (sc_rc I r hs p1 p2 q1 q2 (by omega)).2
  | succ n ih =>
    intro x y d e b u v h p1 p2 q1 q2
    rcases deq_cases h with ⟨m, xs, ys, hn, rfl, rfl, hs⟩ | ⟨m, xs, ys, hn, rfl, rfl, hs⟩ | ⟨rfl, rfl, rfl⟩ | hs
    · cases hn
      obtain ⟨a, vs, its, rfl, rfl, k1, k2, hl⟩ := rep_tup I r p1 q1
      obtain ⟨a', vs', its', rfl, rfl, k1', k2', hl'⟩ := rep_tup I r p2 q2
      by_cases e : a = a'
      · subst e
        rw [deq_self I r _ _ _ _ _ h p1 p2]; exact .same
      · obtain ⟨t1, t2⟩ := items_tree hs k1 k1' k2 k2' (fun x y d e c u v => ih x y d e c u v)
        rw [t2]
        exact .tuples e hl hl' t1
    · cases hn
      obtain ⟨a, vs, its, rfl, rfl, k1, k2, hl⟩ := rep_lst I r p1 q1
      obtain ⟨a', vs', its', rfl, rfl, k1', k2', hl'⟩ := rep_lst I r p2 q2
      by_cases e : a = a'
      · subst e
        rw [deq_self I r _ _ _ _ _ h p1 p2]; exact .same
      · obtain ⟨t1, t2⟩ := items_tree hs k1 k1' k2 k2' (fun x y d e c u v => ih x y d e c u v)
        by_cases hz : its.toArray.size = its'.toArray.size
        · rw [t2]
          have ez : (its.toArray.size == its'.toArray.size) = true := by rw [hz]; exact beq_self_eq_true _
          have em : min its.toArray.size its'.toArray.size = its.toArray.size := by omega
          rw [ez, Bool.and_true, em]
          exact .lists e hl hl' hz t1
        · have ez : (its.toArray.size == its'.toArray.size) = false := by simpa using hz
          rw [t2, ez, Bool.and_false]
          exact .listsLen e hl hl' (by simpa using hz)
    · cases p1 with
      | nod h1 =>
        cases p2 with
        | nod h2 =>
          cases q1; cases q2
          rename_i a a'
          by_cases e : a = a'
          · subst e; exact .same
          · obtain ⟨_, hS, vs, kr, m⟩ := I.hok a _ (r.ex _ _ h1)
            obtain ⟨_, hS', vs', kr', m'⟩ := I.hok a' _ (r.ex _ _ h2)
            cases kr; cases kr'
            exact .dicts (e := fun _ => true) e hS hS' m m' fun k v y hm => by cases hm
    · exact .leaf fun A hu => (sc_rc I r hs p1 p2 q1 q2 (by omega)).2
end
/-- x == y of data; two empty dicts stand only inside -/
def dEq (d e : D) : Option Bool := match d, e with
  | .nod, _ => none
  | d, e => deq 50 d e
def rEqX (K : PySem.W.Frag) : R2 := fun x y H Q => ∃ (pn : List (Addr × Obj)) (w : Wd) (d e : D) (b : Bool), Rel K pn w ∧ w.H = H ∧ Rep K w.G x d ∧ Rep K w.G y e ∧ dEq d e = some b ∧ Q (.bl b) H
theorem op_eqX {X : Cx} (hu : X.A.units + 64 < cLine) : OpR X (compareOp .Eq) (rEqX X.K) := by
  intro pins s σ H x y v u Q I rx ry h
  obtain ⟨pn, w, d, e, b, r, rfl, p1, p2, hb, q⟩ := h
  have hd : deq 50 d e = some b := by
    unfold dEq at hb
    split at hb
    · cases hb
    · exact hb
  have nn : d ≠ .nod := by
    intro z; subst z
    unfold dEq at hb
    cases hb
  have fin : EP X pins σ Q (.bool b) s := ⟨.bl b, w.H, I, rfl, q⟩
  rcases deq_cases hd with ⟨m, xs, ys, hn, rfl, rfl, hs⟩ | ⟨m, xs, ys, hn, rfl, rfl, hs⟩ | ⟨rfl, rfl, rfl⟩ | hs
  · have hm : m = 49 := by omega
    subst hm
    obtain ⟨a, vs, its, rfl, rfl, k1, k2, hl⟩ := rep_tup I r p1 rx
    obtain ⟨a', vs', its', rfl, rfl, k1', k2', hl'⟩ := rep_tup I r p2 ry
    obtain ⟨t1, t2⟩ := items_tree hs k1 k1' k2 k2' (fun x y d e c u v => deq_tree I r 49 x y d e c u v)
    exact PySem.W.eq_tuplesT hl hl' t1 (by omega) (by rw [← t2]; exact fin)
  · have hm : m = 49 := by omega
    subst hm
    obtain ⟨a, vs, its, rfl, rfl, k1, k2, hl⟩ := rep_lst I r p1 rx
    obtain ⟨a', vs', its', rfl, rfl, k1', k2', hl'⟩ := rep_lst I r p2 ry
    obtain ⟨t1, t2⟩ := items_tree hs k1 k1' k2 k2' (fun x y d e c u v => deq_tree I r 49 x y d e c u v)
    by_cases hz : its.toArray.size = its'.toArray.size
    · have ez : (its.toArray.size == its'.toArray.size) = true := by rw [hz]; exact beq_self_eq_true _
      have em : min its.toArray.size its'.toArray.size = its.toArray.size := by omega
      rw [ez, Bool.and_true, em] at t2
      exact PySem.W.eq_listsT hl hl' hz t1 (by omega) (by rw [← t2]; exact fin)
    · have ez : (its.toArray.size == its'.toArray.size) = false := by simpa using hz
      rw [ez, Bool.and_false] at t2
      subst t2
      exact SeqAt.RcAt.lists_lengths hl hl' (by simpa using hz) (by omega) X.prog X.w X.xe _ fin
  · exact (nn rfl).elim
  · exact (sc_rc I r hs p1 p2 rx ry (by omega)).1 X.prog X.w X.xe _ fin
def fEq : D → D → Option D := fun d e => (dEq d e).map .bl
theorem k_eq {K : PySem.W.Frag} : R2Ok K (rEqX K) fEq := by
  intro pn w x y d e z Q r p1 p2 hz k
  unfold fEq at hz
  cases hb : dEq d e with
  | none => rw [hb] at hz; cases hz
  | some b =>
    rw [hb] at hz; cases hz
    exact ⟨pn, w, d, e, b, r, rfl, p1, p2, hb, k _ _ _ (.refl _) r (.bl _)⟩
end DL
namespace DL
open PySem PySem.Spec L2
def optB (o : Option Bool) : MT := fun s => match o with
  | some b => .ok b s
  | none => .stuck
def mTru (m : ME) : MT := bnd m fun d => optB (tru d)
def isBl : D → Option Bool
  | .bl b => some b
  | _ => none
def mBl (m : ME) : MT := bnd m fun d => optB (isBl d)
def mNotT (m : MT) : MT := bnd m fun b => ret (!b)
def mAndT (a b : MT) : MT := bnd a fun x => if x then b else ret false
def mOrT (a b : MT) : MT := bnd a fun x => if x then ret true else b
def mNot (m : ME) : ME := bnd m fun d => bnd (optB (tru d)) fun b => ret (.bl (!b))
def mAnd (a b : ME) : ME := bnd a fun d => bnd (optB (tru d)) fun x => if x then b else ret d
def mOr (a b : ME) : ME := bnd a fun d => bnd (optB (tru d)) fun x => if x then ret d else b
def mIf (t : MT) (a b : ME) : ME := bnd t fun x => if x then a else b
theorem goOn {α β : Type} {K : PySem.W.Frag} {pn : List (Addr × Obj)} {W : WX} {A : Wd → β → α → Prop} {w : Wd} {Q : β → Hp → Prop} {m : S → R α} (r : Rel K pn w) (h : okG K pn W A w Q (m w.s)) : tG K pn W A m w.σ w.H Q := ⟨w, rfl, rfl, r, h⟩
section
variable {X : Cx} {W : WX} {a b c : Expr} {ma mb mc : ME} {ta tb : MT} {pos : Pos}
theorem optB_run {K : PySem.W.Frag} {pn : List (Addr × Obj)} {δ γ : Type} {B : Wd → δ → γ → Prop} {w : Wd} {Q : δ → Hp → Prop} {o : Option Bool} {k : Bool → S → R γ} (h : okG K pn W B w Q (bnd (optB o) k w.s)) : ∃ b, o = some b ∧ okG K pn W B w Q (k b w.s) := by
  cases o with
  | none => exact h.elim
  | some b => exact ⟨b, rfl, h⟩
theorem optB_fin {K : PySem.W.Frag} {pn : List (Addr × Obj)} {w : Wd} {Q : Bool → Hp → Prop} {o : Option Bool} (h : okG K pn W AB w Q (optB o w.s)) (r : Rel K pn w) : ∃ b, o = some b ∧ Q b w.H := by
  cases o with
  | none => exact h.elim
  | some b => exact ⟨b, rfl, h w.G b w.H (.refl _) r rfl⟩
theorem jt_truth (h : JE X W a ma) (he : ∀ whole, isTrue a X.env whole = (do let v ← whole; standAt a.pos; holding [v] (truthy v)) := by intro _; rfl) : JT X W a (mTru ma) := by
  refine PT.imp (pt_truth h he) fun σ H Q h => ?_
  obtain ⟨w, rfl, rfl, r, h⟩ := h
  refine run r h fun d s' G' v H' g r' p h' => ?_
  obtain ⟨k, e, q⟩ := optB_fin h' r'
  exact ⟨k, tru_of r' p e, q⟩
theorem jt_cmp {op : CmpOp} {rr : R2} {f : D → D → Option D} (ho : OpR X (compareOp op) rr) (hr : R2Ok X.K rr f) (ha : JE X W a ma) (hb : JE X W b mb) (hm : behindInMarks op b = false) : JT X W (.Compare a [op] [b] pos) (mBl (mBin f ma mb)) := by
  refine PT.imp (pt_cmpR ho ha hb hm) fun σ H Q h => ?_
  obtain ⟨w, rfl, rfl, r, h⟩ := h
  refine r2_run hr ?_
  refine run r h fun d s' G' v H' g r' p h' => ?_
  obtain ⟨k, e, q⟩ := optB_fin h' r'
  unfold isBl at e
  split at e
  · cases e
    cases p
    exact ⟨_, rfl, q⟩
  · cases e
theorem jt_not (h : JT X W a ta) : JT X W (.UnaryOp .Not a pos) (mNotT ta) := by
  refine PT.imp (pt_not h) fun σ H Q h => ?_
  obtain ⟨w, rfl, rfl, r, h⟩ := h
  refine run r h fun d s' G' v H' g r' p h' => ?_
  cases p
  exact fin r' h' rfl
theorem JW.jt {e : Expr} {m : MT} (h : JW X W e m) : JT X W e m := PW.pt h
theorem jw_and1 (h : JT X W a ta) : JW X W (.BoolOp .And [a] pos) ta := pw_and1 h
theorem jw_or1 (h : JT X W a ta) : JW X W (.BoolOp .Or [a] pos) ta := pw_or1 h
theorem jw_and {rest : List Expr} (h1 : JT X W a ta) (h2 : JW X W (.BoolOp .And (b :: rest) pos) tb) : JW X W (.BoolOp .And (a :: b :: rest) pos) (mAndT ta tb) := by
  refine PW.imp (pw_and h1 h2) fun σ H Q h => ?_
  obtain ⟨w, rfl, rfl, r, h⟩ := h
  refine run r h fun d s' G' v H' g r' p h' => ?_
  cases p
  cases d with
  | true => exact goOn (w := { w with G := G', H := H', s := s' }) r' h'
  | false => exact fin r' h' rfl
theorem jw_or {rest : List Expr} (h1 : JT X W a ta) (h2 : JW X W (.BoolOp .Or (b :: rest) pos) tb) : JW X W (.BoolOp .Or (a :: b :: rest) pos) (mOrT ta tb) := by
  refine PW.imp (pw_or h1 h2) fun σ H Q h => ?_
  obtain ⟨w, rfl, rfl, r, h⟩ := h
  refine run r h fun d s' G' v H' g r' p h' => ?_
  cases p
  cases d with
  | true => exact fin r' h' rfl
  | false => exact goOn (w := { w with G := G', H := H', s := s' }) r' h'
theorem je_not (h : JE X W a ma) : JE X W (.UnaryOp .Not a pos) (mNot ma) := by
  refine PE.imp (pe_notT h) fun σ H Q h => ?_
  obtain ⟨w, rfl, rfl, r, h⟩ := h
  refine run r h fun d s' G' v H' g r' p h' => ?_
  obtain ⟨k, e, q⟩ := optB_run (w := { w with G := G', H := H', s := s' }) h'
  exact ⟨k, tru_of r' p e, fin r' q (.bl _)⟩
theorem je_one {op} (h : JE X W a ma) : JE X W (.BoolOp op [a] pos) ma := pe_one h
theorem je_and {rest : List Expr} (h1 : JE X W a ma) (h2 : JE X W (.BoolOp .And (b :: rest) pos) mb) : JE X W (.BoolOp .And (a :: b :: rest) pos) (mAnd ma mb) := by
  refine PE.imp (pe_andT h1 h2) fun σ H Q h => ?_
  obtain ⟨w, rfl, rfl, r, h⟩ := h
  refine run r h fun d s' G' v H' g r' p h' => ?_
  obtain ⟨k, e, q⟩ := optB_run (w := { w with G := G', H := H', s := s' }) h'
  refine ⟨k, tru_of r' p e, ?_⟩
  cases k with
  | true => exact goOn (w := { w with G := G', H := H', s := s' }) r' q
  | false => exact fin r' q p
theorem je_if (h : JT X W c ta) (h1 : JE X W a ma) (h2 : JE X W b mb) : JE X W (.IfExp c a b pos) (mIf ta ma mb) := by
  refine PE.imp (pe_ifExp h h1 h2) fun σ H Q h => ?_
  obtain ⟨w, rfl, rfl, r, h⟩ := h
  refine run r h fun d s' G' v H' g r' p h' => ?_
  cases p
  cases d with
  | true => exact goOn (w := { w with G := G', H := H', s := s' }) r' h'
  | false => exact goOn (w := { w with G := G', H := H', s := s' }) r' h'
/-- a if t else b, both new lists -/
def mIfF (t : MT) (a b : MA) : MA := bnd t fun x => if x then a else b
/-- -x -/
def mUn (f : D → Option D) (m : ME) : ME := bnd m fun d => lift (f d)
def iNeg : D → Option D
  | .int i => some (.int (-i))
  | _ => none
theorem je_neg (h : JE X W a ma) : JE X W (.UnaryOp .USub a pos) (mUn iNeg ma) := by
  refine PE.imp (pe_un un_neg h) fun σ H Q h => ?_
  obtain ⟨w, rfl, rfl, r, h⟩ := h
  refine run r h fun d s' G' v H' g r' p h' => ?_
  unfold iNeg at h'
  split at h'
  · cases p
    exact ⟨_, rfl, fin r' h' (.int _)⟩
  · exact h'.elim
/-- is None -/
def isNon : D → Bool
  | .non => true
  | _ => false
def fIsN : D → D → Option D
  | d, .non => some (.bl (isNon d))
  | _, _ => none
def fNotN : D → D → Option D
  | d, .non => some (.bl (!isNon d))
  | _, _ => none
theorem rep_non {K : PySem.W.Frag} {G : Gh} {v : V} {d : D} (p : Rep K G v d) : decide (v = .non) = isNon d := by
  cases p <;> simp [isNon]
theorem k_isN {K : PySem.W.Frag} : R2Ok K (fun x y H Q => y = .non ∧ Q (.bl (decide (x = .non))) H) fIsN := by
  intro pn w x y d e z Q r p1 p2 hz k
  unfold fIsN at hz
  split at hz
  · cases hz; cases p2
    refine ⟨rfl, ?_⟩
    rw [rep_non p1]
    exact k _ _ _ (.refl _) r (.bl _)
  · cases hz
theorem k_notN {K : PySem.W.Frag} : R2Ok K (fun x y H Q => y = .non ∧ Q (.bl (!decide (x = .non))) H) fNotN := by
  intro pn w x y d e z Q r p1 p2 hz k
  unfold fNotN at hz
  split at hz
  · cases hz; cases p2
    refine ⟨rfl, ?_⟩
    rw [rep_non p1]
    exact k _ _ _ (.refl _) r (.bl _)
  · cases hz
end
end DL
namespace DL
open PySem PySem.Spec L2
section
variable {α β : Type} {K : PySem.W.Frag} {pn : List (Addr × Obj)} {W : WX}
theorem okS.up {w : Wd} {D : Ends} {r : R Fl} (h : okS K pn W w D r) {G' : Gh} {σ' : L2.St} {H' : Hp} {s' : S} (e : w.G.le G') : okS K pn W { w with G := G', σ := σ', H := H', s := s' } D r := by
  cases r with
  | ok fl s2 => exact fun G2 σ2 H2 e2 r2 => h G2 σ2 H2 (e.trans e2) r2
  | exc x s2 => exact fun G2 σ2 c d H2 e2 r2 a2 => h G2 σ2 c d H2 (e.trans e2) r2 a2
  | stuck => exact h
theorem runS {A : Wd → β → α → Prop} {m : S → R α} {k : α → S → R Fl} {w : Wd} {D : Ends} {Q1 : β → Hp → Prop} (r : Rel K pn w) (h : okS K pn W w D (bnd m k w.s))
    (hk : ∀ a s' G' b H', w.G.le G' → Rel K pn { w with G := G', H := H', s := s' } → A { w with G := G', H := H', s := s' } b a → okS K pn W { w with G := G', H := H', s := s' } D (k a s') → Q1 b H') : tG K pn W A m w.σ w.H Q1 := by
  refine ⟨w, rfl, rfl, r, ?_⟩
  unfold bnd at h
  cases hm : m w.s with
  | ok a s' =>
    rw [hm] at h
    intro G' b H' e r' ha
    exact hk a s' G' b H' e r' ha (okS.up (σ' := w.σ) h e)
  | exc x s' =>
    rw [hm] at h
    exact fun G' c d H' e r' ha => h G' w.σ c d H' e r' ha
  | stuck =>
    rw [hm] at h
    exact h
theorem goS {w : Wd} {D : Ends} {m : MS} (r : Rel K pn w) (h : okS K pn W w D (m w.s)) : tS K pn W m D w.σ w.H := ⟨w, rfl, rfl, r, h⟩
end
def mPass : MS := ret .nx
def mExpr (m : ME) : MS := bnd m fun _ => ret .nx
def mSet (i : Nat) (m : ME) : MS := bnd m fun d s => .ok .nx (s.put i (.imm d))
def mOwn (i : Nat) (m : MA) : MS := bnd m fun ds s => .ok .nx (s.put i (.own ds))
def mRet (m : ME) : MS := bnd m fun d => ret (.rt d)
def mIfS (t : MT) (a b : MS) : MS := bnd t fun x => if x then a else b
def mSeq (a b : MS) : MS := fun s => match a s with
  | .ok .nx s' => b s'
  | .ok fl s' => .ok fl s'
  | .exc x s' => .exc x s'
  | .stuck => .stuck
section
variable {X : Cx} {W : WX} {e : Expr} {m : ME} {pos : Pos} {st : Stmt} {rest : List Stmt} {ms ms' : MS}
theorem jss_nil : JSs X W [] mPass := by
  refine PSs.imp pss_nil fun D σ H h => ?_
  obtain ⟨w, rfl, rfl, r, h⟩ := h
  exact h w.G w.σ w.H (.refl _) r
theorem jss_cons (h1 : JS X W st ms) (h2 : JSs X W rest ms') : JSs X W (st :: rest) (mSeq ms ms') := by
  refine PSs.imp (pss_cons h1 h2) fun D σ H h => ?_
  obtain ⟨w, rfl, rfl, r, h⟩ := h
  refine ⟨w, rfl, rfl, r, ?_⟩
  unfold mSeq at h
  cases hm : ms w.s with
  | ok fl s' =>
    rw [hm] at h
    cases fl with
    | nx => exact fun G' σ' H' g r' => ⟨_, rfl, rfl, r', okS.up (w := w) h g⟩
    | bk => exact h
    | ct => exact h
    | rt d => exact h
  | exc x s' => rw [hm] at h; exact h
  | stuck => rw [hm] at h; exact h
theorem jss_one (h : JS X W st ms) : JSs X W [st] ms := pss_one h
theorem js_expr (h : JE X W e m) (hs : swapsWith e none pos.line X.env = pure false := by rfl) : JS X W (.Expr e pos) (mExpr m) := by
  refine PS.imp (ps_expr h hs) fun D σ H h => ?_
  obtain ⟨w, rfl, rfl, r, h⟩ := h
  refine runS r h fun d s' G' v H' g r' p h' => ?_
  exact h' G' w.σ H' (.refl _) r'
theorem js_set {i : Nat} {x : Str} {pos' : Pos} (hN : X.N.Nodup) (hi : X.N[i]? = some x) (hx : Loc X.env.scope x) (h : JE X W e m) (hs : swapsWith e (some (.Name x pos')) pos.line X.env = pure false := by rfl) (hf : X.fn x = true ∨ X.env.scope.names.lookup x = some .local := by first | exact .inl rfl | exact .inr rfl | assumption) :
    JS X W (.Assign [.Name x pos'] e pos) (mSet i m) := by
  refine PS.imp (ps_set hN hi hx h hs hf) fun D σ H h => ?_
  obtain ⟨w, rfl, rfl, r, h⟩ := h
  refine runS r h fun d s' G' v H' g r' p h' => ?_
  exact h' G' _ H' (.refl _) (r'.set (i := i) p)
theorem js_own {i : Nat} {x : Str} {pos' : Pos} {m : MA} (hN : X.N.Nodup) (hi : X.N[i]? = some x) (hx : Loc X.env.scope x) (h : JF X W e m) (hs : swapsWith e (some (.Name x pos')) pos.line X.env = pure false := by rfl) (hf : X.fn x = true ∨ X.env.scope.names.lookup x = some .local := by first | exact .inl rfl | exact .inr rfl | assumption) :
    JS X W (.Assign [.Name x pos'] e pos) (mOwn i m) := by
  refine PS.imp (ps_set hN hi hx h hs hf) fun D σ H h => ?_
  obtain ⟨w, rfl, rfl, r, h⟩ := h
  refine runS r h fun d s' G' v H' g r' p h' => ?_
  exact h' G' _ H' (.refl _) (r'.setOwn (i := i) p)
theorem js_ret (h : JE X W e m) : JS X W (.Return (some e) pos) (mRet m) := by
  refine PS.imp (ps_ret h) fun D σ H h => ?_
  obtain ⟨w, rfl, rfl, r, h⟩ := h
  refine runS r h fun d s' G' v H' g r' p h' => ?_
  exact h' G' w.σ H' (.refl _) r' v p
theorem js_if {c : Expr} {a b : List Stmt} {t : MT} (hc : JT X W c t) (ha : JSs X W a ms) (hb : JSs X W b ms') : JS X W (.If c a b pos) (mIfS t ms ms') := by
  refine PS.imp (ps_if hc ha hb) fun D σ H h => ?_
  obtain ⟨w, rfl, rfl, r, h⟩ := h
  refine runS r h fun d s' G' v H' g r' p h' => ?_
  cases p
  cases d with
  | true => exact goS (w := { w with G := G', H := H', s := s' }) r' h'
  | false => exact goS (w := { w with G := G', H := H', s := s' }) r' h'
end
abbrev MG := D → Option (List (Nat × D))
def S.puts (s : S) : List (Nat × D) → S
  | [] => s
  | (i, d) :: l => (s.put i (.imm d)).puts l
def upds (σ : L2.St) : List (Nat × V) → L2.St
  | [] => σ
  | (i, v) :: l => upds (σ.set i (some v)) l
def RepU (K : PySem.W.Frag) (G : Gh) : List (Nat × V) → List (Nat × D) → Prop := Paired fun p q => p.1 = q.1 ∧ Rep K G p.2 q.2
theorem Rel.sets {K : PySem.W.Frag} {pn : List (Addr × Obj)} : ∀ {lv : List (Nat × V)} {l : List (Nat × D)} {w : Wd}, Rel K pn w → RepU K w.G lv l → Rel K pn { w with σ := upds w.σ lv, s := w.s.puts l }
  | _, _, _, r, .nil => r
  | _, _, w, r, .cons (a := p) (b := q) h t => by
    obtain ⟨i, v⟩ := p
    obtain ⟨j, d⟩ := q
    obtain ⟨e, h⟩ := h
    cases e
    exact Rel.sets (w := { w with σ := w.σ.set i (some v), s := w.s.put i (.imm d) }) (r.set h) t
theorem wipe_upds {vs : List Nat} : ∀ {lv : List (Nat × V)} {σ : L2.St}, (∀ p ∈ lv, p.1 ∈ vs) → wipe (upds σ lv) vs = wipe σ vs
  | [], _, _ => rfl
  | (i, v) :: l, σ, h => by
    have e : wipe (upds (σ.set i (some v)) l) vs = wipe (σ.set i (some v)) vs := wipe_upds (fun p hp => h p (List.mem_cons_of_mem _ hp))
    show wipe (upds (σ.set i (some v)) l) vs = wipe σ vs
    rw [e]
    have hi : i ∈ vs := h (i, v) List.mem_cons_self
    clear e h
    induction vs with
    | nil => cases hi
    | cons a r ih =>
      unfold wipe
      by_cases hr : i ∈ r
      · rw [ih hr]
      · have ea : i = a := by
          rcases List.mem_cons.mp hi with z | z
          · exact z
          · exact absurd z hr
        subst ea
        have : ∀ (vs : List Nat) (σ : L2.St) (x : Option V), i ∉ vs → wipe (σ.set i x) vs = (wipe σ vs).set i x := by
          intro vs
          induction vs with
          | nil => intro σ x _; rfl
          | cons b q ihq =>
            intro σ x hn
            simp only [List.mem_cons, not_or] at hn
            unfold wipe
            rw [ihq σ x hn.2, List.set_comm _ _ hn.1]
        rw [this r σ _ hr, List.set_set]
/-- the target's reading: the slots that it stores -/
def tTg (K : PySem.W.Frag) (mg : MG) : TG := fun v σ H Q => ∃ (pn : List (Addr × Obj)) (w : Wd) (d : D) (l : List (Nat × D)), w.H = H ∧ Rel K pn w ∧ Rep K w.G v d ∧ mg d = some l ∧ ∀ lv, RepU K w.G lv l → Q (upds σ lv) H
structure JG (X : Cx) (tg : Expr) (mg : MG) (ix : List Nat) : Prop where
  pg : PG X tg (tTg X.K mg)
  ix : ∀ d l, mg d = some l → ∀ p ∈ l, p.1 ∈ ix
def gNm (i : Nat) : MG := fun d => some [(i, d)]
theorem PG.imp {X : Cx} {e : Expr} {t t' : TG} (h : PG X e t) (i : ∀ v σ H Q, t' v σ H Q → t v σ H Q) : PG X e t' := ⟨fun pins s σ H v u Q I r q => h.run pins s σ H v u Q I r (i _ _ _ _ q)⟩
theorem PGs.imp {X : Cx} {e : List Expr} {t t' : TGs} (h : PGs X e t) (i : ∀ v σ H Q, t' v σ H Q → t v σ H Q) : PGs X e t' := ⟨fun pins s σ H v u Q I r q => h.run pins s σ H v u Q I r (i _ _ _ _ q)⟩
section
variable {X : Cx} {pos : Pos}
theorem jg_name {i : Nat} {x : Str} (hN : X.N.Nodup) (hi : X.N[i]? = some x) (hx : Loc X.env.scope x) (hf : X.fn x = true ∨ X.env.scope.names.lookup x = some .local := by first | exact .inl rfl | exact .inr rfl | assumption) : JG X (.Name x pos) (gNm i) [i] := by
  refine ⟨PG.imp (pg_name hN hi hx hf) fun v σ H Q h => ?_, fun d l h p hp => ?_⟩
  · obtain ⟨pn, w, d, l, rfl, r, p, e, q⟩ := h
    cases e
    exact q [(i, v)] (.cons ⟨rfl, p⟩ .nil)
  · cases h
    simp at hp
    simp [hp]
abbrev MGs := List D → Option (List (Nat × D))
def tTgs (K : PySem.W.Frag) (mg : MGs) : TGs := fun vs σ H Q => ∃ (pn : List (Addr × Obj)) (w : Wd) (ds : List D) (l : List (Nat × D)), w.H = H ∧ Rel K pn w ∧ Reps K w.G vs ds ∧ mg ds = some l ∧ ∀ lv, RepU K w.G lv l → Q (upds σ lv) H
structure JGs (X : Cx) (tg : List Expr) (mg : MGs) (ix : List Nat) : Prop where
  pg : PGs X tg (tTgs X.K mg)
  ix : ∀ d l, mg d = some l → ∀ p ∈ l, p.1 ∈ ix
def gsNil : MGs
  | [] => some []
  | _ => none
def gsCons (g : MG) (gs : MGs) : MGs
  | d :: ds => match g d, gs ds with
    | some l, some l' => some (l ++ l')
    | _, _ => none
  | [] => none
theorem jgs_nil : JGs X [] gsNil [] := by
  refine ⟨PGs.imp pgs_nil fun v σ H Q h => ?_, fun d l h p hp => ?_⟩
  · obtain ⟨pn, w, ds, l, rfl, r, p, e, q⟩ := h
    unfold gsNil at e
    split at e
    · cases p; cases e
      exact ⟨rfl, q [] .nil⟩
    · cases e
  · unfold gsNil at h
    split at h
    · cases h; cases hp
    · cases h
theorem upds_append : ∀ (l l' : List (Nat × V)) (σ : L2.St), upds σ (l ++ l') = upds (upds σ l) l'
  | [], _, _ => rfl
  | (i, v) :: l, l', σ => upds_append l l' (σ.set i (some v))
theorem paired_append {α β : Type} {F : α → β → Prop} : ∀ {a : List α} {b : List β} {c : List α} {d : List β}, Paired F a b → Paired F c d → Paired F (a ++ c) (b ++ d)
  | _, _, _, _, .nil, h => h
  | _, _, _, _, .cons x t, h => .cons x (paired_append t h)
theorem jgs_cons {e : Expr} {es : List Expr} {g : MG} {gs : MGs} {ix ix' : List Nat} (h1 : JG X e g ix) (h2 : JGs X es gs ix') (hs : (assignEach (e :: es) X.env).map (·.2) = assign e X.env :: (assignEach es X.env).map (·.2) := by rfl) : JGs X (e :: es) (gsCons g gs) (ix ++ ix') := by
  refine ⟨PGs.imp (pgs_cons h1.pg h2.pg hs) fun v σ H Q h => ?_, fun d l h p hp => ?_⟩
  · obtain ⟨pn, w, ds, l, rfl, r, p, e, q⟩ := h
    cases p with
    | nil => cases e
    | cons p ps =>
      rename_i v vs d ds
      unfold gsCons at e
      cases h1 : g d with
      | none => simp [h1] at e
      | some l1 =>
        cases h2 : gs ds with
        | none => simp [h1, h2] at e
        | some l2 =>
          simp [h1, h2] at e
          subst e
          refine ⟨v, vs, rfl, pn, w, d, l1, rfl, r, p, h1, fun lv hv => ?_⟩
          refine ⟨pn, w, ds, l2, rfl, r, ps, h2, fun lv' hv' => ?_⟩
          rw [← upds_append]
          exact q _ (paired_append hv hv')
  · cases d with
    | nil => cases h
    | cons d ds =>
      unfold gsCons at h
      cases e1 : g d with
      | none => simp [e1] at h
      | some l1 =>
        cases e2 : gs ds with
        | none => simp [e1, e2] at h
        | some l2 =>
          simp [e1, e2] at h
          subst h
          rcases List.mem_append.mp hp with z | z
          · exact List.mem_append_left _ (h1.ix d l1 e1 p z)
          · exact List.mem_append_right _ (h2.ix ds l2 e2 p z)
def gTp (n : Nat) (gs : MGs) : MG
  | .tup ds => if ds.length = n then gs ds else none
  | .kt ds => if ds.length = n then gs ds else none
  | _ => none
theorem jg_tup {es : List Expr} {k : Nat} {gs : MGs} {ix : List Nat} {n : Nat} (hc : X.calm = true) (h : JGs X es gs ix) (hn : (assignEach es X.env).length = n := by rfl) (hst : (assignEach es X.env).findIdx? (·.1) = none := by rfl) : JG X (.Tuple es k pos) (gTp n gs) ix := by
  refine ⟨PG.imp (pg_tup hc h.pg hn hst) fun v σ H Q h => ?_, fun d l e p hp => ?_⟩
  · obtain ⟨pn, w, d, l, rfl, r, p, e, q⟩ := h
    unfold gTp at e
    split at e
    · rename_i ds
      cases p with
      | tup hs rs =>
        split at e
        · rename_i hl
          exact ⟨_, _, rfl, tqT r.ex hs, rs.length.trans hl, pn, w, ds, l, rfl, r, rs, e, q⟩
        · cases e
    · rename_i ds
      cases p with
      | kt hs rs =>
        split at e
        · rename_i hl
          exact ⟨_, _, rfl, sqT_mono r.ex hs, rs.length.trans hl, pn, w, ds, l, rfl, r, rs, e, q⟩
        · cases e
    · cases e
  · unfold gTp at e
    split at e
    · split at e
      · exact h.ix _ _ e p hp
      · cases e
    · split at e
      · exact h.ix _ _ e p hp
      · cases e
    · cases e
/-- target = value, the target a tuple of names -/
def mAsg (g : MG) (m : ME) : MS := bnd m fun d s => match g d with
  | some l => .ok .nx (s.puts l)
  | none => .stuck
theorem js_asg {tg e : Expr} {W : WX} {m : ME} {g : MG} {ix : List Nat} (he : JE X W e m) (hg : JG X tg g ix) (hs : swapsWithSole [tg] e pos.line X.env = pure false := by rfl) (hw : swappedStores [tg] e X.env = pure none := by rfl)
    (h1 : (assignEach [tg] X.env).map (·.2) = [assign tg X.env] := by rfl) : JS X W (.Assign [tg] e pos) (mAsg g m) := by
  refine PS.imp (ps_asg he hg.pg hs hw h1) fun D σ H h => ?_
  obtain ⟨w, rfl, rfl, r, h⟩ := h
  refine runS r h fun d s' G' v H' g' r' p h' => ?_
  cases hl : g d with
  | none => rw [hl] at h'; exact h'.elim
  | some l =>
    rw [hl] at h'
    exact ⟨X.pn, { w with G := G', H := H', s := s' }, d, l, rfl, r', p, hl, fun lv hv => h' G' _ H' (.refl _) (Rel.sets r' hv)⟩
end
structure ItR (K : PySem.W.Frag) (J : It) (G : Gh) (ds : List D) : Prop where
  go : ∀ pn w, Rel K pn w → G.le w.G → ∀ i, i < ds.length → J.go i w.H
  yld : ∀ pn w, Rel K pn w → G.le w.G → ∀ (i : Nat) d x H', ds[i]? = some d → J.yld i w.H x H' → ∃ G', w.G.le G' ∧ Rel K pn { w with G := G', H := H' } ∧ Rep K G' x d
  stop : ∀ pn w, Rel K pn w → G.le w.G → ∀ i, ds.length ≤ i → J.stop i w.H
abbrev AI (K : PySem.W.Frag) : Wd → It → List D → Prop := fun w J ds => ItR K J w.G ds
def JI (X : Cx) (W : WX) (tg iter : Expr) (m : MA) : Prop := PI X tg iter (tG X.K X.pn W (AI X.K) m)
theorem PI.imp {X : Cx} {tg e : Expr} {t t' : TI} (h : PI X tg e t) (i : ∀ σ H Q, t' σ H Q → t σ H Q) : PI X tg e t' := ⟨fun pins s σ H R I q => h.run pins s σ H R I (i _ _ _ q)⟩
theorem PI.or {X : Cx} {tg e : Expr} {t t' : TI} (h : PI X tg e t) (h' : PI X tg e t') : PI X tg e (fun σ H R => t σ H R ∨ t' σ H R) := ⟨fun pins s σ H R I q => q.elim (h.run pins s σ H R I) (h'.run pins s σ H R I)⟩
/-- the items of a tuple, of a list -/
def itD : D → Option (List D)
  | .tup ds => some ds
  | .lst ds => some ds
  | .kl ds => some ds
  | .kt ds => some ds
  | _ => none
def mIt (m : ME) : MA := bnd m fun d s => match itD d with
  | some ds => .ok ds s
  | none => .stuck
section
variable {K : PySem.W.Frag} {G : Gh} {a : Addr} {vs : List V} {ds : List D}
theorem itl_r (h : SqL K G.F a vs) (rs : Reps K G vs ds) : ItR K (Itl K a) G ds where
  go := fun pn w r g i hi => by
    have hl : i < vs.length := by rw [rs.length]; exact hi
    exact ⟨vs, vs[i], sqL_mono (fun a o z => r.ex a o (g.f a o z)) h, List.getElem?_eq_getElem hl⟩
  yld := fun pn w r g i d x H' hd y => by
    obtain ⟨e, y⟩ := y
    subst e
    have q := y vs (sqL_mono (fun a o z => r.ex a o (g.f a o z)) h)
    obtain ⟨v, h1, h2⟩ := rs.get hd
    rw [q] at h1
    cases h1
    exact ⟨w.G, .refl _, r, h2.mono g⟩
  stop := fun pn w r g i hi => ⟨vs, sqL_mono (fun a o z => r.ex a o (g.f a o z)) h, by rw [rs.length]; exact hi⟩
theorem itt_r (h : SqT K G.F a vs) (rs : Reps K G vs ds) : ItR K (Itt K a) G ds where
  go := fun pn w r g i hi => by
    have hl : i < vs.length := by rw [rs.length]; exact hi
    exact ⟨vs, vs[i], sqT_mono (fun a o z => r.ex a o (g.f a o z)) h, List.getElem?_eq_getElem hl⟩
  yld := fun pn w r g i d x H' hd y => by
    obtain ⟨e, y⟩ := y
    subst e
    have q := y vs (sqT_mono (fun a o z => r.ex a o (g.f a o z)) h)
    obtain ⟨v, h1, h2⟩ := rs.get hd
    rw [q] at h1
    cases h1
    exact ⟨w.G, .refl _, r, h2.mono g⟩
  stop := fun pn w r g i hi => ⟨vs, sqT_mono (fun a o z => r.ex a o (g.f a o z)) h, by rw [rs.length]; exact hi⟩
/-- lo, lo + 1 .. -/
def intsD (lo : Int) (n : Nat) : List D := (List.range n).map fun (i : Nat) => .int (lo + i)
theorem itr_r {lo : Int} {n : Nat} : ItR K (Itr lo n) G (intsD lo n) where
  go := fun pn w r g i hi => by show i < n; simpa [intsD] using hi
  yld := fun pn w r g i d x H' hd y => by
    obtain ⟨e, y⟩ := y
    subst e y
    unfold intsD at hd
    rw [List.getElem?_map] at hd
    cases hr : (List.range n)[i]? with
    | none => rw [hr] at hd; cases hd
    | some j =>
      rw [hr] at hd
      have : j = i := by
        obtain ⟨hl, e⟩ := List.getElem?_eq_some_iff.mp hr
        rw [List.getElem_range] at e
        exact e.symm
      subst this
      cases hd
      exact ⟨w.G, .refl _, r, .int _⟩
  stop := fun pn w r g i hi => by show n ≤ i; simpa [intsD] using hi
end
section
variable {X : Cx} {W : WX} {tg e : Expr} {m : ME} {pos p : Pos}
theorem run' {α β γ δ : Type} {K : PySem.W.Frag} {pn : List (Addr × Obj)} {A : Wd → β → α → Prop} {B : Wd → δ → γ → Prop} {m : S → R α} {k : α → S → R γ} {w : Wd} {Q : δ → Hp → Prop} {Q1 : β → Hp → Prop} (r : Rel K pn w) (h : okG K pn W B w Q (bnd m k w.s))
    (hk : ∀ a s' G' b H', m w.s = .ok a s' → w.G.le G' → Rel K pn { w with G := G', H := H', s := s' } → A { w with G := G', H := H', s := s' } b a → okG K pn W B { w with G := G', H := H', s := s' } Q (k a s') → Q1 b H') : tG K pn W A m w.σ w.H Q1 := by
  refine ⟨w, rfl, rfl, r, ?_⟩
  unfold bnd at h
  cases hm : m w.s with
  | ok a s' =>
    rw [hm] at h
    intro G' b H' e r' ha
    exact hk a s' G' b H' hm e r' ha (h.up e)
  | exc x s' =>
    rw [hm] at h
    exact h
  | stuck =>
    rw [hm] at h
    exact h
def isTup : D → Bool
  | .tup _ => true
  | .kt _ => true
  | _ => false
theorem rep_sq {K : PySem.W.Frag} {G : Gh} {v : V} {d : D} {ds : List D} (p : Rep K G v d) (h : itD d = some ds) (ht : isTup d = false) : ∃ a vs, v = .ref a ∧ SqL K G.F a vs ∧ Reps K G vs ds := by
  cases p with
  | tup hs rs => cases ht
  | kt hs rs => cases ht
  | lst hs rs => cases h; exact ⟨_, _, rfl, SqL.of hs, rs⟩
  | kl hs rs => cases h; exact ⟨_, _, rfl, hs, rs⟩
  | _ => cases h
theorem rep_st {K : PySem.W.Frag} {G : Gh} {v : V} {d : D} {ds : List D} (p : Rep K G v d) (h : itD d = some ds) (ht : isTup d = true) : ∃ a vs, v = .ref a ∧ SqT K G.F a vs ∧ Reps K G vs ds := by
  cases p with
  | tup hs rs => cases h; exact ⟨_, _, rfl, SqT.of hs, rs⟩
  | kt hs rs => cases h; exact ⟨_, _, rfl, hs, rs⟩
  | _ => cases ht
theorem ji_seq (h : JE X W e m) : JI X W tg e (mIt m) := by
  refine PI.imp (PI.or (pi_list h) (pi_tup h)) fun σ H Q h => ?_
  obtain ⟨w, rfl, rfl, r, h⟩ := h
  by_cases hl : ∃ d s', m w.s = .ok d s' ∧ isTup d = true
  · obtain ⟨d0, s0, hm, ht⟩ := hl
    refine .inr (run' r h fun d s2 G' v H' hm2 g r' p h' => ?_)
    rw [hm] at hm2
    cases hm2
    cases hd : itD d0 with
    | none => rw [hd] at h'; exact h'.elim
    | some ds =>
      rw [hd] at h'
      obtain ⟨a, vs, rfl, hs, rs⟩ := rep_st p hd ht
      exact ⟨_, rfl, ⟨_, sqT_mono r'.ex hs⟩, fin r' h' (itt_r hs rs)⟩
  · refine .inl (run' r h fun d s2 G' v H' hm2 g r' p h' => ?_)
    cases hd : itD d with
    | none => rw [hd] at h'; exact h'.elim
    | some ds =>
      rw [hd] at h'
      have ht : isTup d = false := by
        cases q : isTup d with
        | false => rfl
        | true => exact (hl ⟨_, _, hm2, q⟩).elim
      obtain ⟨a, vs, rfl, hs, rs⟩ := rep_sq p hd ht
      exact ⟨_, rfl, ⟨_, sqL_mono r'.ex hs⟩, fin r' h' (itl_r hs rs)⟩
/-- range -/
def rng1 : List D → Option (List D)
  | [.int j] => if -(2 ^ 62) ≤ j ∧ j < 2 ^ 62 then some (intsD 0 j.toNat) else none
  | _ => none
def mRng (f : List D → Option (List D)) (m : MA) : MA := bnd m fun ds s => match f ds with
  | some l => .ok l s
  | none => .stuck
theorem ji_range1 {a : Expr} {m : MA} (hg : Gl X "range") (hm : X.mg "range" = none) (ha : JA X W [a] m) (hs : starEach [a] X.env = [(false, eval a X.env)] := by rfl) : JI X W tg (.Call (.Name "range" p) [a] [] pos) (mRng rng1 m) := by
  refine PI.imp (pi_range1 hg hm ha.pa hs) fun σ H Q h => ?_
  obtain ⟨w, rfl, rfl, r, h⟩ := h
  refine run r h fun ds s2 G' vs H' g r' q h' => ?_
  cases hd : rng1 ds with
  | none => rw [hd] at h'; exact h'.elim
  | some l =>
    rw [hd] at h'
    unfold rng1 at hd
    split at hd
    · split at hd
      · rename_i hj
        cases hd
        cases q with
        | cons q1 q2 =>
          cases q1; cases q2
          exact ⟨_, rfl, hj.1, hj.2, fin r' h' itr_r⟩
      · cases hd
    · cases hd
end
def fo (g : MG) (b : MS) : List D → MS
  | [] => ret .nx
  | d :: ds => fun s => match g d with
    | none => .stuck
    | some l => match b (s.puts l) with
      | .ok .nx s2 => fo g b ds s2
      | .ok .ct s2 => fo g b ds s2
      | .ok .bk s2 => .ok .nx s2
      | .ok (.rt d) s2 => .ok (.rt d) s2
      | .exc x s2 => .exc x s2
      | .stuck => .stuck
def mFor (it : MA) (g : MG) (b : MS) : MS := bnd it fun ds => fo g b ds
def wh (t : MT) (b : MS) : Nat → MS
  | 0 => stk
  | n + 1 => bnd t fun c => if c then (fun s => match b s with
      | .ok .nx s2 => wh t b n s2
      | .ok .ct s2 => wh t b n s2
      | .ok .bk s2 => .ok .nx s2
      | .ok (.rt d) s2 => .ok (.rt d) s2
      | .exc x s2 => .exc x s2
      | .stuck => .stuck) else ret .nx
open Classical in
noncomputable def mWhile (t : MT) (b : MS) : MS := fun s => if h : ∃ n, wh t b n s ≠ .stuck then wh t b (Classical.choose h) s else .stuck
section
variable {X : Cx} {W : WX} {tg iter c : Expr} {body : List Stmt} {pos : Pos} {it : MA} {g : MG} {ix : List Nat} {b : MS} {t : MT}
theorem js_for (hp : PassesOwn (model X.prog X.w) X.A X.env X.xe) (hc : X.calm = true) (hi : JI X W tg iter it) (hg : JG X tg g ix) (hb : JSs X W body b) (hs : ∀ x, foldedSetIterable iter X.env x = pure x := by intro _; rfl) :
    JS X W (.For tg iter body [] pos) (mFor it g b) := by
  refine PS.imp (ps_for hp hc hi hg.pg hb hs) fun D σ H h => ?_
  obtain ⟨w, rfl, rfl, r, h⟩ := h
  refine runS r h fun ds s' G' J H' g' r' I h' => ?_
  refine ⟨fun i m σ H => m = ds.length - i ∧ i ≤ ds.length ∧ ∃ w2 : Wd, w2.σ = σ ∧ w2.H = H ∧ Rel X.K X.pn w2 ∧ G'.le w2.G ∧ okS X.K X.pn W w2 D (fo g b (ds.drop i) w2.s), ⟨_, rfl, Nat.zero_le _, { w with G := G', H := H', s := s' }, rfl, rfl, r', .refl _, h'⟩, ?_⟩
  rintro i m σ H ⟨rfl, hi, w2, rfl, rfl, r2, g2, h2⟩
  by_cases hlt : i < ds.length
  · have hd : ds[i]? = some ds[i] := List.getElem?_eq_getElem hlt
    have ed : ds.drop i = ds[i] :: ds.drop (i + 1) := List.drop_eq_getElem_cons hlt
    rw [ed] at h2
    refine .inr ⟨I.go _ _ r2 g2 i hlt, fun σ' H' => ∃ w3 : Wd, w3.σ = σ' ∧ w3.H = H' ∧ Rel X.K X.pn w3 ∧ G'.le w3.G ∧ okS X.K X.pn W w3 D (fo g b (ds.drop (i + 1)) w3.s), fun σ' H' hw => ⟨_, by omega, rfl, hlt, hw⟩, fun x H2 y => ?_⟩
    obtain ⟨G3, g3, r3, p3⟩ := I.yld _ _ r2 g2 i _ x H2 hd y
    unfold fo at h2
    cases hl : g ds[i] with
    | none => simp only [hl] at h2; exact h2.elim
    | some l =>
      simp only [hl] at h2
      refine ⟨X.pn, { w2 with G := G3, H := H2 }, ds[i], l, rfl, r3, p3, hl, fun lv hv => ?_⟩
      have r4 := Rel.sets r3 hv
      refine ⟨_, rfl, rfl, r4, ?_⟩
      show okS X.K X.pn W _ _ (b (w2.s.puts l))
      cases hbb : b (w2.s.puts l) with
      | ok fl s5 =>
        rw [hbb] at h2
        cases fl with
        | nx => exact fun G5 σ5 H5 g5 r5 => ⟨_, rfl, rfl, r5, (g2.trans g3).trans g5, okS.up (w := w2) h2 (g3.trans g5)⟩
        | ct => exact fun G5 σ5 H5 g5 r5 => ⟨_, rfl, rfl, r5, (g2.trans g3).trans g5, okS.up (w := w2) h2 (g3.trans g5)⟩
        | bk => exact fun G5 σ5 H5 g5 r5 => h2 G5 σ5 H5 (g3.trans g5) r5
        | rt d => exact fun G5 σ5 H5 g5 r5 v p => h2 G5 σ5 H5 (g3.trans g5) r5 v p
      | exc x s5 =>
        rw [hbb] at h2
        exact fun G5 σ5 c d H5 g5 r5 p => h2 G5 σ5 c d H5 (g3.trans g5) r5 p
      | stuck =>
        rw [hbb] at h2
        exact h2
  · have e : i = ds.length := by omega
    subst e
    rw [List.drop_length] at h2
    exact .inl ⟨I.stop _ _ r2 g2 _ (Nat.le_refl _), h2 w2.G w2.σ w2.H (.refl _) r2⟩
theorem js_while (hp : PassesOwn (model X.prog X.w) X.A X.env X.xe) (hc : JT X W c t) (hb : JSs X W body b) : JS X W (.While c body [] pos) (mWhile t b) := by
  refine PS.imp (ps_while hp hc hb) fun D σ H h => ?_
  obtain ⟨w, rfl, rfl, r, h⟩ := h
  unfold mWhile at h
  split at h
  · rename_i hx
    generalize Classical.choose hx = n at h
    refine ⟨fun m σ H => ∃ w2 : Wd, w2.σ = σ ∧ w2.H = H ∧ Rel X.K X.pn w2 ∧ okS X.K X.pn W w2 D (wh t b m w2.s), ⟨n, w, rfl, rfl, r, h⟩, ?_⟩
    rintro m σ H ⟨w2, rfl, rfl, r2, h2⟩
    cases m with
    | zero => exact h2.elim
    | succ m =>
      refine runS r2 h2 fun c2 s' G' v H' g r' p h' => ?_
      cases p
      cases c2 with
      | false =>
        simp only [Bool.false_eq_true, if_false] at h' ⊢
        exact h' G' _ H' (.refl _) r'
      | true =>
        simp only [if_true] at h' ⊢
        refine ⟨fun σ' H' => ∃ w3 : Wd, w3.σ = σ' ∧ w3.H = H' ∧ Rel X.K X.pn w3 ∧ okS X.K X.pn W w3 D (wh t b m w3.s), fun σ' H' hw => ⟨m, Nat.lt_succ_self _, hw⟩, ?_⟩
        refine ⟨{ w2 with G := G', H := H', s := s' }, rfl, rfl, r', ?_⟩
        show okS X.K X.pn W _ _ (b s')
        cases hbb : b s' with
        | ok fl s5 =>
          rw [hbb] at h'
          cases fl with
          | nx => exact fun G5 σ5 H5 g5 r5 => ⟨_, rfl, rfl, r5, okS.up (w := { w2 with G := G', H := H', s := s' }) h' g5⟩
          | ct => exact fun G5 σ5 H5 g5 r5 => ⟨_, rfl, rfl, r5, okS.up (w := { w2 with G := G', H := H', s := s' }) h' g5⟩
          | bk => exact fun G5 σ5 H5 g5 r5 => h' G5 σ5 H5 g5 r5
          | rt d => exact fun G5 σ5 H5 g5 r5 v p => h' G5 σ5 H5 g5 r5 v p
        | exc x s5 =>
          rw [hbb] at h'
          exact fun G5 σ5 c d H5 g5 r5 p => h' G5 σ5 c d H5 g5 r5 p
        | stuck =>
          rw [hbb] at h'
          exact h'
  · exact h.elim
end
theorem wh_mono {t : MT} {b : MS} : ∀ {n : Nat} {s : S}, wh t b n s ≠ .stuck → wh t b (n + 1) s = wh t b n s
  | 0, s, h => (h rfl).elim
  | n + 1, s, h => by
    have e1 : wh t b (n + 1 + 1) s = bnd t (fun c => if c then (fun s => match b s with | .ok .nx s2 => wh t b (n + 1) s2 | .ok .ct s2 => wh t b (n + 1) s2 | .ok .bk s2 => .ok .nx s2 | .ok (.rt d) s2 => .ok (.rt d) s2 | .exc x s2 => .exc x s2 | .stuck => .stuck) else ret .nx) s := rfl
    have e2 : wh t b (n + 1) s = bnd t (fun c => if c then (fun s => match b s with | .ok .nx s2 => wh t b n s2 | .ok .ct s2 => wh t b n s2 | .ok .bk s2 => .ok .nx s2 | .ok (.rt d) s2 => .ok (.rt d) s2 | .exc x s2 => .exc x s2 | .stuck => .stuck) else ret .nx) s := rfl
    rw [e1, e2]
    rw [e2] at h
    unfold bnd at h ⊢
    cases ht : t s with
    | exc x s' => rfl
    | stuck => rfl
    | ok c s' =>
      rw [ht] at h
      cases c with
      | false => rfl
      | true =>
        simp only [if_true] at h ⊢
        cases hb : b s' with
        | exc x s2 => rfl
        | stuck => rfl
        | ok fl s2 =>
          simp only [hb] at h
          cases fl with
          | nx => exact wh_mono h
          | ct => exact wh_mono h
          | bk => rfl
          | rt d => rfl
theorem wh_le {t : MT} {b : MS} {n : Nat} {s : S} (h : wh t b n s ≠ .stuck) : ∀ k, wh t b (n + k) s = wh t b n s
  | 0 => rfl
  | k + 1 => by
    have ih := wh_le h k
    rw [← Nat.add_assoc, wh_mono (by rw [ih]; exact h), ih]
theorem mWhile_of {t : MT} {b : MS} {n : Nat} {s : S} (h : wh t b n s ≠ .stuck) : mWhile t b s = wh t b n s := by
  have hx : ∃ n, wh t b n s ≠ .stuck := ⟨n, h⟩
  unfold mWhile
  rw [dif_pos hx]
  have h2 := Classical.choose_spec hx
  generalize Classical.choose hx = k at h2
  rcases Nat.le_total n k with q | q
  · obtain ⟨j, rfl⟩ := Nat.exists_eq_add_of_le q
    exact wh_le h j
  · obtain ⟨j, rfl⟩ := Nat.exists_eq_add_of_le q
    exact (wh_le h2 j).symm
/-- THE EQUATION: one turn -/
theorem mWhile_eq (t : MT) (b : MS) (s : S) : mWhile t b s = bnd t (fun c => if c then (fun s => match b s with
      | .ok .nx s2 => mWhile t b s2
      | .ok .ct s2 => mWhile t b s2
      | .ok .bk s2 => .ok .nx s2
      | .ok (.rt d) s2 => .ok (.rt d) s2
      | .exc x s2 => .exc x s2
      | .stuck => .stuck) else ret .nx) s := by
  by_cases hx : ∃ n, wh t b n s ≠ .stuck
  · obtain ⟨n, hn⟩ := hx
    rw [mWhile_of hn]
    cases n with
    | zero => exact (hn rfl).elim
    | succ n =>
      have e2 : wh t b (n + 1) s = bnd t (fun c => if c then (fun s => match b s with | .ok .nx s2 => wh t b n s2 | .ok .ct s2 => wh t b n s2 | .ok .bk s2 => .ok .nx s2 | .ok (.rt d) s2 => .ok (.rt d) s2 | .exc x s2 => .exc x s2 | .stuck => .stuck) else ret .nx) s := rfl
      rw [e2] at hn ⊢
      unfold bnd at hn ⊢
      cases ht : t s with
      | exc x s' => rfl
      | stuck => rfl
      | ok c s' =>
        rw [ht] at hn
        cases c with
        | false => rfl
        | true =>
          simp only [if_true] at hn ⊢
          cases hb : b s' with
          | exc x s2 => rfl
          | stuck => rfl
          | ok fl s2 =>
            simp only [hb] at hn
            cases fl with
            | nx => exact (mWhile_of hn).symm
            | ct => exact (mWhile_of hn).symm
            | bk => rfl
            | rt d => rfl
  · have e : mWhile t b s = .stuck := by unfold mWhile; rw [dif_neg hx]
    rw [e]
    unfold bnd
    cases ht : t s with
    | exc x s' =>
      exfalso; apply hx; refine ⟨1, ?_⟩
      show bnd t _ s ≠ _
      unfold bnd; rw [ht]; intro z; cases z
    | stuck => rfl
    | ok c s' =>
      cases c with
      | false =>
        exfalso; apply hx; refine ⟨1, ?_⟩
        show bnd t _ s ≠ _
        unfold bnd; rw [ht]; intro z; cases z
      | true =>
        simp only [if_true]
        cases hb : b s' with
        | exc x s2 =>
          exfalso; apply hx; refine ⟨1, ?_⟩
          show bnd t _ s ≠ _
          unfold bnd; rw [ht]; simp only [if_true, hb]; intro z; cases z
        | stuck => rfl
        | ok fl s2 =>
          have key : ∀ n, wh t b n s2 = .stuck ∨ (fl = .bk ∨ ∃ d, fl = .rt d) := by
            intro n
            by_cases q : wh t b n s2 = .stuck
            · exact .inl q
            · right
              cases fl with
              | bk => exact .inl rfl
              | rt d => exact .inr ⟨d, rfl⟩
              | nx =>
                exfalso; apply hx; refine ⟨n + 1, ?_⟩
                show bnd t _ s ≠ _
                unfold bnd; rw [ht]; simp only [if_true, hb]; exact q
              | ct =>
                exfalso; apply hx; refine ⟨n + 1, ?_⟩
                show bnd t _ s ≠ _
                unfold bnd; rw [ht]; simp only [if_true, hb]; exact q
          cases fl with
          | nx =>
            have : ¬ ∃ n, wh t b n s2 ≠ .stuck := fun ⟨n, hn⟩ => by
              rcases key n with z | z | ⟨d, z⟩
              · exact hn z
              · cases z
              · cases z
            show _ = mWhile t b s2
            unfold mWhile; rw [dif_neg this]
          | ct =>
            have : ¬ ∃ n, wh t b n s2 ≠ .stuck := fun ⟨n, hn⟩ => by
              rcases key n with z | z | ⟨d, z⟩
              · exact hn z
              · cases z
              · cases z
            show _ = mWhile t b s2
            unfold mWhile; rw [dif_neg this]
          | bk =>
            exfalso; apply hx; refine ⟨1, ?_⟩
            show bnd t _ s ≠ _
            unfold bnd; rw [ht]; simp only [if_true, hb]; intro z; cases z
          | rt d =>
            exfalso; apply hx; refine ⟨1, ?_⟩
            show bnd t _ s ≠ _
            unfold bnd; rw [ht]; simp only [if_true, hb]; intro z; cases z
end DL
namespace DL
open PySem PySem.Spec PySem.W PySem.Calls L2
inductive RO where
  | ok (d : D) (st : List Ob) | exc (x : Exc) (st : List Ob) | stuck
abbrev Fn := List D → List Ob → RO
def slots (n : Nat) (ds : List D) : List Slot := ds.map .imm ++ List.replicate (n - ds.length) .emp
def endR : R Fl → RO
  | .ok (.rt d) s => .ok d s.st
  | .ok .nx s => .ok .non s.st
  | .ok _ _ => .stuck
  | .exc x s => .exc x s.st
  | .stuck => .stuck
/-- the def with n names whose body is m -/
def fnM (n : Nat) (m : MS) : Fn := fun ds st => endR (m ⟨slots n ds, st⟩)
/-- the heap and the store at a call -/
structure At (K : PySem.W.Frag) (G : Gh) (H : Hp) (st : List Ob) : Prop where
  ex : ∀ a o, G.F a = some o → H a = some o
  st : StRel K G H st
  tb : Tb K H G H
def okF (K : PySem.W.Frag) (G : Gh) (H : Hp) (Q : VK) (E : XK) : RO → Prop
  | .ok d st' => ∀ G' v H', Le G H G' H' → At K G' H' st' → Rep K G' v d → Q v H'
  | .exc x st' => ∀ G' c d H', Le G H G' H' → At K G' H' st' → XRep K G' c d x → E c d H'
  | .stuck => False
/-- the promise of a def that does f -/
def spF (K : PySem.W.Frag) (n : Nat) (f : Fn) : Sp := fun vs H Q E => ∃ (G : Gh) (ds : List D) (st : List Ob), vs.length = n ∧ At K G H st ∧ Reps K G vs ds ∧ okF K G H Q E (f ds st)
theorem slots_get {n i : Nat} {ds : List D} {x : Slot} (h : (slots n ds)[i]? = some x) : (∃ d, ds[i]? = some d ∧ x = .imm d) ∨ x = .emp := by
  unfold slots at h
  by_cases hl : i < ds.length
  · rw [List.getElem?_append_left (by simpa using hl), List.getElem?_map] at h
    rw [List.getElem?_eq_getElem hl] at h
    cases h
    exact .inl ⟨_, List.getElem?_eq_getElem hl, rfl⟩
  · rw [List.getElem?_append_right (by simpa using hl)] at h
    have := List.mem_of_getElem? h
    exact .inr (List.eq_of_mem_replicate this)
theorem start_get {N : List Str} {vs : List V} {i : Nat} {v : V} (h : vs[i]? = some v) : (L2.start N vs)[i]? = some (some v) := by
  unfold L2.start
  have hl : i < vs.length := (List.getElem?_eq_some_iff.mp h).1
  rw [List.getElem?_append_left (by simpa using hl), List.getElem?_map, h]; rfl
/-- at a def's entry -/
theorem rel_start {K : PySem.W.Frag} {G : Gh} {H : Hp} {st : List Ob} {N : List Str} {vs : List V} {ds : List D} (a : At K G H st) (r : Reps K G vs ds) : Rel K [] ⟨G, H, G, L2.start N vs, H, ⟨slots N.length ds, st⟩, []⟩ := by
  refine ⟨a.ex, Le.refl _ _, a.st, ⟨?_, fun i d h => ?_, fun i es h => ?_, fun i j es fs b h => ?_, fun i x h => ?_⟩, (fun q hq => by cases hq), a.tb⟩
  · show (L2.start N vs).length = (slots N.length ds).length
    unfold L2.start slots
    simp only [List.length_append, List.length_map, List.length_replicate, r.length]
  · rcases slots_get h with ⟨d', e1, e2⟩ | e
    · cases e2
      obtain ⟨v, h1, h2⟩ := r.get e1
      exact ⟨v, start_get h1, h2⟩
    · cases e
  · rcases slots_get h with ⟨d', e1, e2⟩ | e
    · cases e2
    · cases e
  · rcases slots_get h with ⟨d', e1, e2⟩ | e
    · cases e2
    · cases e
  · rcases slots_get h with ⟨d', e1, e2⟩ | e
    · cases e2
    · cases e
section
variable {P : Program} {w : World} {K : PySem.W.Frag} {mg : Str → Option Value} {base : Heap} {x qual : Str} {params : Arguments} {body : List Stmt} {scope : Scope} {dvs : List V} {kws : List (Str × V)} {f : Addr} {fd : FuncData}
/-- THE RULE for a def -/
theorem fn_ok {N ps : List Str} {k : Nat} {m : MS} (F : FunD K x qual params body scope dvs kws f fd) (Sc : FnScope N ps scope)
    (hb : ∀ (cdv : Value) (A : Around) (outer : List Env) (s : Shared) (H : Hp) (E : XK), Room k (A.deeper (PyProof.Rows.envOfC qual scope s.heap.objs.size f cdv)) → JSs (cxOf (L2N.CX P w) P w K mg base N qual scope f cdv A outer s H E) (fun c d _ H => E c d H) body m) :
    FnOk P w K mg base (L2N.CX P w) (k + 1) f fd ps (spF K ps.length (fnM N.length m)) := by
  refine F.ok Sc (fun vs H Q E h => ?_) (fun cdv A outer s H vs Q E hr h => ⟨_, hb cdv A outer s H E hr, ?_⟩)
  · obtain ⟨G, ds, st, hl, _⟩ := h
    exact hl
  · obtain ⟨G, ds, st, hl, a, r, h⟩ := h
    refine ⟨⟨G, H, G, L2.start N vs, H, ⟨slots N.length ds, st⟩, []⟩, rfl, rfl, rel_start a r, ?_⟩
    show okS K [] _ _ _ (m ⟨slots N.length ds, st⟩)
    unfold fnM at h
    cases hm : m ⟨slots N.length ds, st⟩ with
    | ok fl s' =>
      rw [hm] at h
      cases fl with
      | nx => exact fun G' σ' H' g r' => h G' .non H' r'.le ⟨r'.ex, r'.st, r'.tb.here⟩ .non
      | rt d => exact fun G' σ' H' g r' v p => h G' v H' r'.le ⟨r'.ex, r'.st, r'.tb.here⟩ p
      | bk => exact h.elim
      | ct => exact h.elim
    | exc e s' =>
      rw [hm] at h
      exact fun G' σ' c d H' g r' p => h G' c d H' r'.le ⟨r'.ex, r'.st, r'.tb.here⟩ p
    | stuck =>
      rw [hm] at h
      exact h
end
/-- the end of a call, from the caller's side -/
def outR (s : S) : RO → R D
  | .ok d st => .ok d { s with st := st }
  | .exc x st => .exc x { s with st := st }
  | .stuck => .stuck
def mCall (f : Fn) (m : MA) : ME := bnd m fun ds s => outR s (f ds s.st)
theorem Rel.after {K : PySem.W.Frag} {pn : List (Addr × Obj)} {w : Wd} {G' : Gh} {H' : Hp} {st' : List Ob} (r : Rel K pn w) (l : Le w.G w.H G' H') (a : At K G' H' st') : Rel K pn { w with G := G', H := H', s := { w.s with st := st' } } := by
  refine ⟨a.ex, r.le.trans l, a.st, ⟨r.sl.len, fun i d h => ?_, fun i ds h => ?_, r.sl.dis, fun i x h => ?_⟩, fun q hq => ?_, fun P q hP => ⟨(r.tb P q hP).1, (a.tb P q hP).2⟩⟩
  · obtain ⟨v, h1, h2⟩ := r.sl.imm i d h
    exact ⟨v, h1, h2.mono l.g⟩
  · obtain ⟨b, vs, h1, h2, h3, h4, h5, h6⟩ := r.sl.own i ds h
    refine ⟨b, vs, h1, l.kp _ _ h2 h5 (fun _ z => by cases z), h3.mono l.g, ?_, fun m => ?_, h6⟩
    · cases q : G'.F b with
      | none => rfl
      | some o =>
        rcases l.fz b o q with z | z | ⟨_, _, _, z⟩
        · rw [h4] at z; cases z
        · rw [h2] at z; cases z
        · cases z _ h2
    · rcases l.nw b m with z | z
      · exact h5 z
      · rw [h2] at z; cases z
  · obtain ⟨b, oe, tl, cls, d, h1, h2, h3, h4⟩ := r.sl.xn i x h
    exact ⟨b, oe, tl, cls, d, h1, h2, h3, h4.mono l.g⟩
  · obtain ⟨p1, p2, p3, p4⟩ := r.pr q hq
    refine ⟨l.kp _ _ p1 p3.1 (isT_tbl p3.2), ?_, ⟨fun m => ?_, p3.2⟩, p4⟩
    · cases z : G'.F q.1 with
      | none => rfl
      | some o =>
        rcases l.fz _ _ z with y | y | ⟨_, _, _, y⟩
        · rw [p2] at y; cases y
        · rw [p1] at y; cases y
        · have e := p3.2
          rw [y _ p1] at e
          cases e
    · rcases l.nw _ m with y | y
      · exact p3.1 y
      · rw [p1] at y; cases y
section
variable {X : Cx} {W : WX} {k : Nat} {f : Addr} {fd : FuncData} {ps : List Str} {fn : Fn} {x : Str} {p pos : Pos} {e : Expr} {es : List Expr} {m : MA} {dds : List D} {dvs : List V} {ds : List Value}
/-- the callee's side, from a state of the caller -/
theorem call_run {w : Wd} {vs : List V} {as : List D} {n : Nat} {Q : VK} (r : Rel X.K X.pn w) (q : Reps X.K w.G vs as) (hn : vs.length = n) (h : okG X.K X.pn W (AR X.K) w Q (outR w.s (fn as w.s.st))) : spF X.K n fn vs w.H Q (WE W w.σ) := by
  refine ⟨w.G, as, w.s.st, hn, ⟨r.ex, r.st, r.tb.here⟩, q, ?_⟩
  cases hf : fn as w.s.st with
  | ok d st' =>
    rw [hf] at h
    exact fun G' v H' l a p => h G' v H' l.g (r.after l a) p
  | exc y st' =>
    rw [hf] at h
    exact fun G' c d H' l a p => h G' c d H' l.g (r.after l a) p
  | stuck =>
    rw [hf] at h
    exact h
theorem je_call (F : FnOk X.prog X.w X.K X.mg X.base (L2N.CX X.prog X.w) k f fd ps (spF X.K ps.length fn)) (hr : Room k X.A) (tk : L2N.Takes X W) (hg : Gl X x) (hm : X.mg x = some (.ref f)) (hk : PySem.W.keepIn X.K (.ref f) = true) (hb : Binds X.K fd ps [])
    (ha : JA X W (e :: es) m) (hl : (e :: es).length = ps.length := by rfl) (hdb : (x == ("__debug__" : Str)) = false := by decide) (he : starEach (e :: es) X.env = (false, eval e X.env) :: starEach es X.env := by rfl) (hpl : (backTo pos (starEach es X.env)).any (·.1) = false := by rfl) :
    JE X W (.Call (.Name x p) (e :: es) [] pos) (mCall fn m) := by
  refine PE.imp (pe_callSD (E := WE W) F hr hg hm hk hb (Paired.nil) (fun σ => L2N.passAt tk σ) ha.pa hdb he hpl) fun σ H Q h => ?_
  obtain ⟨w, rfl, rfl, r, h⟩ := h
  refine run' r h fun as s' G' vs H' hm2 g r' q h' => ?_
  refine call_run (fn := fn) (w := { w with G := G', H := H', s := s' }) r' (by rw [List.append_nil]; exact q) ?_ h'
  rw [List.append_nil, q.length, ha.len _ _ _ hm2]
  exact hl
end
end DL
namespace DL
open PySem PySem.Spec L2
def ixD : D → D → Option D
  | .tup ds, .int i => atI ds i
  | .lst ds, .int i => atI ds i
  | .kl ds, .int i => atI ds i
  | .kt ds, .int i => atI ds i
  | .str x, .int i => if few x.length then (atI x.cps.toList i).map fun c => .str ⟨#[c]⟩ else none
  | _, _ => none
theorem Reps.atI {K : PySem.W.Frag} {G : Gh} {vs : List V} {ds : List D} {i : Int} {d : D} (r : Reps K G vs ds) (h : L2.atI ds i = some d) : ∃ v, L2.atI vs i = some v ∧ Rep K G v d := by
  unfold L2.atI at h ⊢
  rw [r.length]
  cases hx : ixN ds.length i with
  | none => rw [hx] at h; cases h
  | some j =>
    rw [hx] at h
    exact r.get h
theorem k_ix {K : PySem.W.Frag} : R2Ok K (rIx K) ixD := by
  intro pn w x y d e z Q r p1 p2 hz k
  unfold ixD at hz
  split at hz
  · cases p2
    cases p1 with
    | tup hs rs =>
      obtain ⟨v, h1, h2⟩ := rs.atI hz
      exact .inr (.inl ⟨_, _, _, v, rfl, rfl, tqT r.ex hs, h1, k _ _ _ (.refl _) r h2⟩)
  · cases p2
    cases p1 with
    | lst hs rs =>
      obtain ⟨v, h1, h2⟩ := rs.atI hz
      exact .inl ⟨_, _, _, v, rfl, rfl, SqL.of (r.ex _ _ hs), h1, k _ _ _ (.refl _) r h2⟩
  · cases p2
    cases p1 with
    | kl hs rs =>
      obtain ⟨v, h1, h2⟩ := rs.atI hz
      exact .inl ⟨_, _, _, v, rfl, rfl, sqL_mono r.ex hs, h1, k _ _ _ (.refl _) r h2⟩
  · cases p2
    cases p1 with
    | kt hs rs =>
      obtain ⟨v, h1, h2⟩ := rs.atI hz
      exact .inr (.inl ⟨_, _, _, v, rfl, rfl, sqT_mono r.ex hs, h1, k _ _ _ (.refl _) r h2⟩)
  · rename_i z i
    cases p1; cases p2
    split at hz
    · rename_i hf
      cases hc : L2.atI z.cps.toList i with
      | none => rw [hc] at hz; cases hz
      | some c =>
        rw [hc] at hz; cases hz
        exact .inr (.inr ⟨_, _, c, rfl, rfl, hf.line, hc, k _ _ _ (.refl _) r (.str _)⟩)
    · cases hz
  · cases hz
/-- what stands in a slot now -/
def cur (s : S) (i : Nat) : Option D := match s.sl[i]? with
  | some (.imm d) => some d
  | some (.own ds) => some (.lst ds)
  | _ => none
def mIxV (i : Nat) (m : ME) : ME := bnd m fun e s => match cur s i with
  | some d => lift (ixD d e) s
  | none => .stuck
def mIxN (i : Nat) (m : ME) : ME := fun s => match cur s i with
  | some _ => mIxV i m s
  | none => .stuck
section
variable {X : Cx} {W : WX} {a b : Expr} {ma mb : ME} {pos p : Pos}
theorem je_ix (ha : JE X W a ma) (hb : JE X W b mb) (hs : PlainIx b := by exact fun _ _ => rfl) : JE X W (.Subscript a b pos) (mBin ixD ma mb) :=
  PE.imp (pe_ix ix_seq ha hb hs) fun _ _ _ h => r2_run k_ix h
/-- the slot's value behind an expression -/
theorem slot_val {K : PySem.W.Frag} {pn : List (Addr × Obj)} {w : Wd} {i : Nat} {d : D} (r : Rel K pn w) (h : cur w.s i = some d) : ∃ v, w.σ[i]? = some (some v) ∧ (Rep K w.G v d ∨ ∃ a vs ds, v = .ref a ∧ d = .lst ds ∧ w.H a = some (.lst vs) ∧ Reps K w.G vs ds) := by
  unfold cur at h
  split at h
  · cases h
    rename_i e
    obtain ⟨v, h1, h2⟩ := r.sl.imm i _ e
    exact ⟨v, h1, .inl h2⟩
  · cases h
    rename_i e
    obtain ⟨b, vs, h1, h2, h3, _⟩ := r.sl.own i _ e
    exact ⟨_, h1, .inr ⟨b, vs, _, rfl, rfl, h2, h3⟩⟩
  · cases h
theorem je_ixV (i : Nat) {x : Str} (hb : JE X W b mb) (hs : PlainIx b := by exact fun _ _ => rfl) (hN : X.N[i]? = some x := by rfl) (hv : Vis X.env.scope x := by first | exact Or.inl rfl | exact Or.inr (Or.inl rfl) | exact Or.inr (Or.inr rfl)) (hd : (x == ("__debug__" : Str)) = false := by decide) (hcd : (x == ("__classdict__" : Str)) = false := by decide) :
    JE X W (.Subscript (.Name x p) b pos) (mIxN i mb) := by
  refine PE.imp (pe_ix ix_seq (pv i hN hv hd hcd) hb hs) fun σ H Q h => ?_
  obtain ⟨w, rfl, rfl, r, h⟩ := h
  unfold mIxN at h
  cases hc : cur w.s i with
  | none => simp only [hc] at h; exact h.elim
  | some d0 =>
    simp only [hc] at h
    obtain ⟨v, h1, _⟩ := slot_val r hc
    refine ⟨v, h1, ?_⟩
    refine run r h fun e s' G' y H' g r' p h' => ?_
    cases hc2 : cur s' i with
    | none => simp only [hc2] at h'; exact h'.elim
    | some d =>
      simp only [hc2] at h'
      obtain ⟨v2, h2, h3⟩ := slot_val r' hc2
      have h2 : w.σ[i]? = some (some v2) := h2
      rw [h1] at h2
      cases h2
      cases hz : ixD d e with
      | none => rw [hz] at h'; exact h'.elim
      | some z =>
        rw [hz] at h'
        rcases h3 with h3 | ⟨a, vs, ds, rfl, rfl, h4, h5⟩
        · exact k_ix X.pn _ v y d e z Q r' h3 p hz fun G3 y H3 g3 r3 p3 => h' G3 y H3 g3 r3 p3
        · unfold ixD at hz
          split at hz
          · rename_i heq; cases heq
          · rename_i heq
            cases heq
            cases p
            obtain ⟨u, e1, e2⟩ := h5.atI hz
            exact .inl ⟨_, _, _, u, rfl, rfl, SqL.of h4, e1, h' _ _ _ (.refl _) r' e2⟩
          · rename_i heq; cases heq
          · rename_i heq; cases heq
          · rename_i heq; cases heq
          · cases hz
end
/-- a value that stands for d: frozen, or a list that a slot owns -/
def AL (K : PySem.W.Frag) : Wd → V → D → Prop := fun w v d => Rep K w.G v d ∨ ∃ a vs ds, v = .ref a ∧ d = .lst ds ∧ w.H a = some (.lst vs) ∧ Reps K w.G vs ds
def JB (X : Cx) (W : WX) (e : Expr) (m : ME) : Prop := PE X e (tG X.K X.pn W (AL X.K) m)
def mLook (i : Nat) : ME := fun s => match cur s i with
  | some d => .ok d s
  | none => .stuck
section
variable {X : Cx} {W : WX} {e : Expr} {m : ME} {pos p : Pos} {x : Str}
theorem jb_of (h : JE X W e m) : JB X W e m := by
  refine PE.imp h fun σ H Q h => ?_
  obtain ⟨w, rfl, rfl, r, h⟩ := h
  refine ⟨w, rfl, rfl, r, ?_⟩
  cases hm : m w.s with
  | ok d s' => rw [hm] at h; exact fun G' v H' g r' p => h G' v H' g r' (.inl p)
  | exc y s' => rw [hm] at h; exact h
  | stuck => rw [hm] at h; exact h
theorem jb_var (i : Nat) (hN : X.N[i]? = some x := by rfl) (hv : Vis X.env.scope x := by first | exact Or.inl rfl | exact Or.inr (Or.inl rfl) | exact Or.inr (Or.inr rfl)) (hd : (x == ("__debug__" : Str)) = false := by decide) (hcd : (x == ("__classdict__" : Str)) = false := by decide) : JB X W (.Name x pos) (mLook i) := by
  refine PE.imp (pv i hN hv hd hcd) fun σ H Q h => ?_
  obtain ⟨w, rfl, rfl, r, h⟩ := h
  unfold mLook at h
  cases hc : cur w.s i with
  | none => rw [hc] at h; exact h.elim
  | some d =>
    rw [hc] at h
    obtain ⟨v, h1, h2⟩ := slot_val r hc
    exact ⟨v, h1, h w.G v w.H (.refl _) r h2⟩
/-- a new list, only looked at -/
theorem jb_new {m : MA} (h : JF X W e m) : JB X W e (bnd m fun ds => ret (.lst ds)) := by
  refine PE.imp h fun σ H Q h => ?_
  obtain ⟨w, rfl, rfl, r, h⟩ := h
  refine run r h fun ds s' G' v H' g r' a h' => ?_
  obtain ⟨b, vs, rfl, h1, h2, _⟩ := a
  exact fin r' h' (.inr ⟨b, vs, ds, rfl, rfl, h1, h2⟩)
/-- r on one value does what f does -/
def R1Ok (K : PySem.W.Frag) (r : List V → Hp → VK → Prop) (f : D → Option D) : Prop := ∀ (pn : List (Addr × Obj)) (w : Wd) (x : V) (d z : D) (Q : VK), Rel K pn w → AL K w x d → f d = some z → (∀ G' v H', w.G.le G' → Rel K pn { w with G := G', H := H' } → Rep K G' v z → Q v H') → r [x] w.H Q
def R1OkF (K : PySem.W.Frag) (r : List V → Hp → VK → Prop) (f : D → Option (List D)) : Prop := ∀ (pn : List (Addr × Obj)) (w : Wd) (x : V) (d : D) (z : List D) (Q : VK), Rel K pn w → AL K w x d → f d = some z → (∀ G' v H', w.G.le G' → Rel K pn { w with G := G', H := H' } → AF K { w with G := G', H := H' } v z → Q v H') → r [x] w.H Q
def mUnF (f : D → Option (List D)) (m : ME) : MA := bnd m fun d s => match f d with
  | some z => .ok z s
  | none => .stuck
theorem r1_run {r : List V → Hp → VK → Prop} {f : D → Option D} {σ : L2.St} {H : Hp} {Q : VK} (hr : R1Ok X.K r f) (h : tG X.K X.pn W (AR X.K) (mUn f m) σ H Q) : tCB r (tCons (tG X.K X.pn W (AL X.K) m) tNil) σ H Q := by
  obtain ⟨w, rfl, rfl, r0, h⟩ := h
  refine run r0 h fun d s' G' v H' g r' p h' => ?_
  cases hz : f d with
  | none => rw [hz] at h'; exact h'.elim
  | some z =>
    rw [hz] at h'
    exact hr X.pn _ v d z Q r' p hz fun G3 y H3 g3 r3 p3 => h' G3 y H3 g3 r3 p3
theorem r1_runF {r : List V → Hp → VK → Prop} {f : D → Option (List D)} {σ : L2.St} {H : Hp} {Q : VK} (hr : R1OkF X.K r f) (h : tG X.K X.pn W (AF X.K) (mUnF f m) σ H Q) : tCB r (tCons (tG X.K X.pn W (AL X.K) m) tNil) σ H Q := by
  obtain ⟨w, rfl, rfl, r0, h⟩ := h
  refine run r0 h fun d s' G' v H' g r' p h' => ?_
  cases hz : f d with
  | none => rw [hz] at h'; exact h'.elim
  | some z =>
    rw [hz] at h'
    exact hr X.pn _ v d z Q r' p hz fun G3 y H3 g3 r3 p3 => h' G3 y H3 g3 r3 p3
variable {r : List V → Hp → VK → Prop} {f : D → Option D} {ff : D → Option (List D)} {id T : String}
theorem je_b1 (hc : CallR X (.builtin id) r) (hr : R1Ok X.K r f) (hg : Gl X x) (hm : X.mg x = none) (hv : bootBuiltins x = some (.builtin id)) (h : JB X W e m) (hn : x ≠ "__name__" := by decide) (hdb : (x == ("__debug__" : Str)) = false := by decide)
    (hs : starEach [e] X.env = (false, eval e X.env) :: starEach [] X.env := by rfl) (h1 : starEach [e] X.env = (false, eval e X.env) :: starEach [] X.env := by rfl) (h2 : (backTo pos (starEach [] X.env)).any (·.1) = false := by rfl) :
    JE X W (.Call (.Name x p) [e] [] pos) (mUn f m) := PE.imp (pe_callB hc hg hm hv (pa_cons h pa_nil hs) hn hdb h1 h2) fun _ _ _ h => r1_run hr h
theorem je_t1 (hc : CallR X (.type T) r) (hr : R1Ok X.K r f) (hg : Gl X x) (hm : X.mg x = none) (hv : bootBuiltins x = some (.type T)) (h : JB X W e m) (hn : x ≠ "__name__" := by decide) (hdb : (x == ("__debug__" : Str)) = false := by decide)
    (hs : starEach [e] X.env = (false, eval e X.env) :: starEach [] X.env := by rfl) (h1 : starEach [e] X.env = (false, eval e X.env) :: starEach [] X.env := by rfl) (h2 : (backTo pos (starEach [] X.env)).any (·.1) = false := by rfl) :
    JE X W (.Call (.Name x p) [e] [] pos) (mUn f m) := PE.imp (pe_callTy hc hg hm hv (pa_cons h pa_nil hs) hn hdb h1 h2) fun _ _ _ h => r1_run hr h
theorem jf_t1 (hc : CallR X (.type T) r) (hr : R1OkF X.K r ff) (hg : Gl X x) (hm : X.mg x = none) (hv : bootBuiltins x = some (.type T)) (h : JB X W e m) (hn : x ≠ "__name__" := by decide) (hdb : (x == ("__debug__" : Str)) = false := by decide)
    (hs : starEach [e] X.env = (false, eval e X.env) :: starEach [] X.env := by rfl) (h1 : starEach [e] X.env = (false, eval e X.env) :: starEach [] X.env := by rfl) (h2 : (backTo pos (starEach [] X.env)).any (·.1) = false := by rfl) :
    JF X W (.Call (.Name x p) [e] [] pos) (mUnF ff m) := PE.imp (pe_callTy hc hg hm hv (pa_cons h pa_nil hs) hn hdb h1 h2) fun _ _ _ h => r1_runF hr h
end
section
variable {K : PySem.W.Frag}
theorem AL.sq {pn : List (Addr × Obj)} {w : Wd} {x : V} {d : D} {ds : List D} (r : Rel K pn w) (p : AL K w x d) (h : itD d = some ds) : ∃ a vs, x = .ref a ∧ (SqL K w.H a vs ∨ SqT K w.H a vs) ∧ (isTup d = false → SqL K w.H a vs) ∧ (isTup d = true → SqT K w.H a vs) ∧ Reps K w.G vs ds := by
  rcases p with p | ⟨a, vs, es, rfl, rfl, h1, h2⟩
  · cases ht : isTup d with
    | false =>
      obtain ⟨a, vs, rfl, hs, rs⟩ := rep_sq p h ht
      exact ⟨a, vs, rfl, .inl (sqL_mono r.ex hs), fun _ => sqL_mono r.ex hs, (fun z => by cases z), rs⟩
    | true =>
      obtain ⟨a, vs, rfl, hs, rs⟩ := rep_st p h ht
      exact ⟨a, vs, rfl, .inr (sqT_mono r.ex hs), (fun z => by cases z), fun _ => sqT_mono r.ex hs, rs⟩
  · cases h
    exact ⟨a, vs, rfl, .inl (SqL.of h1), fun _ => SqL.of h1, (fun z => by cases z), h2⟩
def fLen : D → Option D
  | .str x => if few x.length then some (.int x.length) else none
  | d => (itD d).map fun ds => .int ds.length
theorem k_len : R1Ok K (fun xs H Q => ∃ x n, xs = [x] ∧ LenV K x H n ∧ Q (.int n) H) fLen := by
  intro pn w x d z Q r p hz k
  unfold fLen at hz
  split at hz
  · rename_i y
    split at hz
    · rename_i hf
      cases hz
      rcases p with p | ⟨a, vs, es, rfl, he, _⟩
      · cases p
        exact ⟨_, _, rfl, ⟨hf.line, rfl⟩, k _ _ _ (.refl _) r (.int _)⟩
      · cases he
    · cases hz
  · cases hi : itD d with
    | none => rw [hi] at hz; cases hz
    | some ds =>
      rw [hi] at hz; cases hz
      obtain ⟨a, vs, rfl, hq, _, _, rs⟩ := AL.sq r p hi
      refine ⟨_, ds.length, rfl, ?_, k _ _ _ (.refl _) r (.int _)⟩
      rw [← rs.length]
      rcases hq with hq | hq
      · exact .inl ⟨_, hq, rfl⟩
      · exact .inr ⟨_, hq, rfl⟩
theorem k_list : R1OkF K (fun xs H Q => ∃ p ys, xs = [.ref p] ∧ (SqL K H p ys ∨ SqT K H p ys) ∧ ∀ l, H l = none → Q (.ref l) (upd H l (.lst ys))) itD := by
  intro pn w x d z Q r p hz k
  obtain ⟨a, vs, rfl, hq, _, _, rs⟩ := AL.sq r p hz
  exact ⟨a, vs, rfl, hq, fun l hl => k _ _ _ (.refl _) (r.alloc hl) (AF.new r hl rs)⟩
def fTuple (d : D) : Option D := match d with
  | .kt ds => some (.kt ds)
  | d => (itD d).map .tup
theorem k_tuple : R1Ok K (fun xs H Q => ∃ p ys, xs = [.ref p] ∧ ((SqL K H p ys ∧ ∀ l, H l = none → Q (.ref l) (upd H l (.tup ys))) ∨ (SqT K H p ys ∧ Q (.ref p) H))) fTuple := by
  intro pn w x d z Q r p hz k
  unfold fTuple at hz
  split at hz
  · rename_i ds
    cases hz
    rcases p with p | ⟨a, vs, es, rfl, e, _⟩
    · cases p with
      | kt hs rs => exact ⟨_, _, rfl, .inr ⟨sqT_mono r.ex hs, k _ _ _ (.refl _) r (.kt hs rs)⟩⟩
    · cases e
  · rename_i d0 hnk
    cases hi : itD d with
    | none => rw [hi] at hz; cases hz
    | some ds =>
      rw [hi] at hz; cases hz
      cases ht : isTup d with
      | false =>
        obtain ⟨a, vs, rfl, _, hq, _, rs⟩ := AL.sq r p hi
        refine ⟨a, vs, rfl, .inl ⟨hq ht, fun l hl => ?_⟩⟩
        have hn : w.G.F l = none := r.noF hl
        exact k _ _ _ (gle_upd hn) (r.new hl) (.tup upd_same (rs.mono (gle_upd hn)))
      | true =>
        rcases p with p | ⟨a, vs, es, rfl, rfl, _⟩
        · cases p with
          | tup hs rs => cases hi; exact ⟨_, _, rfl, .inr ⟨tqT r.ex hs, k _ _ _ (.refl _) r (.tup hs rs)⟩⟩
          | kt hs rs => exact (hnk _ rfl).elim
          | _ => cases ht
        · cases ht
/-- all items are bools -/
def blsD : List D → Option (List Bool)
  | [] => some []
  | .bl b :: r => (blsD r).map (b :: ·)
  | _ => none
theorem bls_v {G : Gh} : ∀ {vs : List V} {ds : List D} {bs : List Bool}, Reps K G vs ds → blsD ds = some bs → vs = bs.map V.bl
  | _, _, _, .nil, h => by cases h; rfl
  | _, _, bs, .cons (d := d) (ds := ds) p r, h => by
    cases d with
    | bl b =>
      unfold blsD at h
      cases hb : blsD ds with
      | none => rw [hb] at h; cases h
      | some cs =>
        rw [hb] at h; cases h
        cases p
        rw [bls_v r hb]; rfl
    | _ => cases h
def fAll : D → Option D
  | .lst ds => (blsD ds).map fun bs => .bl (bs.all id)
  | _ => none
def fAny : D → Option D
  | .lst ds => (blsD ds).map fun bs => .bl (bs.any id)
  | _ => none
theorem AL.lst {pn : List (Addr × Obj)} {w : Wd} {x : V} {ds : List D} (r : Rel K pn w) (p : AL K w x (.lst ds)) : ∃ a vs, x = .ref a ∧ SqL K w.H a vs ∧ Reps K w.G vs ds := by
  obtain ⟨a, vs, rfl, _, hq, _, rs⟩ := AL.sq r p rfl
  exact ⟨a, vs, rfl, hq rfl, rs⟩
theorem k_all : R1Ok K (rAll K) fAll := by
  intro pn w x d z Q r p hz k
  unfold fAll at hz
  split at hz
  · rename_i ds
    cases hb : blsD ds with
    | none => rw [hb] at hz; cases hz
    | some bs =>
      rw [hb] at hz; cases hz
      obtain ⟨a, vs, rfl, hq, rs⟩ := AL.lst r p
      have e := bls_v rs hb
      subst e
      exact ⟨a, bs, rfl, hq, k _ _ _ (.refl _) r (.bl _)⟩
  · cases hz
/-- all items are ints -/
def intsD? : List D → Option (List Int)
  | [] => some []
  | .int b :: r => (intsD? r).map (b :: ·)
  | _ => none
theorem ints_rep {G : Gh} : ∀ (ns : List Int), Reps K G (ns.map V.int) (ns.map D.int)
  | [] => .nil
  | n :: ns => .cons (.int n) (ints_rep ns)
def fSum : D → Option D
  | .lst ds => (intsD? ds).map fun ns => .int ns.sum
  | _ => none
def fAbs : D → Option D
  | .int i => some (.int (if i < 0 then -i else i))
  | _ => none
theorem AL.rep {w : Wd} {x : V} {d : D} (p : AL K w x d) (h : ∀ ds, d ≠ .lst ds) : Rep K w.G x d := by
  rcases p with p | ⟨a, vs, es, rfl, he, _⟩
  · exact p
  · exact (h _ he).elim
theorem k_abs : R1Ok K (fun xs H Q => ∃ i, xs = [.int i] ∧ Q (.int (if i < 0 then -i else i)) H) fAbs := by
  intro pn w x d z Q r p hz k
  unfold fAbs at hz
  split at hz
  · cases hz
    have p := p.rep (fun _ => by simp)
    cases p
    exact ⟨_, rfl, k _ _ _ (.refl _) r (.int _)⟩
  · cases hz
def fInt : D → Option D
  | .int i => some (.int i)
  | .bl b => some (.int (if b then 1 else 0))
  | _ => none
theorem k_int : R1Ok K (fun xs H Q => (∃ i, xs = [.int i] ∧ Q (.int i) H) ∨ ∃ k, xs = [.bl k] ∧ Q (.int (if k then 1 else 0)) H) fInt := by
  intro pn w x d z Q r p hz k
  unfold fInt at hz
  split at hz
  · cases hz
    have p := p.rep (fun _ => by simp)
    cases p
    exact .inl ⟨_, rfl, k _ _ _ (.refl _) r (.int _)⟩
  · cases hz
    have p := p.rep (fun _ => by simp)
    cases p
    exact .inr ⟨_, rfl, k _ _ _ (.refl _) r (.int _)⟩
  · cases hz
end
end DL
namespace DL
open PySem PySem.Spec L2
section
variable {K : PySem.W.Frag}
def sAdd : D → D → Option D
  | .str a, .str b => if few (a.length + b.length) then some (.str (a ++ b)) else none
  | _, _ => none
theorem k_sadd : R2Ok K (fun x y H Q => ∃ i j, x = .str i ∧ y = .str j ∧ i.length + j.length ≤ sizeLine ∧ Q (.str (i ++ j)) H) sAdd := by
  intro pn w x y d e z Q r p1 p2 hz k
  unfold sAdd at hz
  split at hz
  · split at hz
    · rename_i hf
      cases hz; cases p1; cases p2
      exact ⟨_, _, rfl, rfl, hf.line, k _ _ _ (.refl _) r (.str _)⟩
    · cases hz
  · cases hz
def tAdd : D → D → Option D
  | .tup a, .tup b => if few (a.length + b.length) then some (.tup (a ++ b)) else none
  | _, _ => none
theorem k_tadd : R2Ok K (rCatA K) tAdd := by
  intro pn w x y d e z Q r p1 p2 hz k
  unfold tAdd at hz
  split at hz
  · split at hz
    · rename_i hf
      cases hz
      cases p1 with
      | tup h1 r1 =>
        cases p2 with
        | tup h2 r2 =>
          refine ⟨_, _, _, _, rfl, rfl, tqT r.ex h1, tqT r.ex h2, by rw [r1.length, r2.length]; exact hf.line, fun e => ?_, fun e1 e2 => ?_, fun _ _ p hp => ?_⟩
          · subst e; cases r1
            exact k _ _ _ (.refl _) r (.tup h2 r2)
          · subst e2; cases r2
            rw [List.append_nil] at k
            exact k _ _ _ (.refl _) r (.tup h1 r1)
          · have hn := r.noF hp
            exact k _ _ _ (gle_upd hn) (r.new hp) (.tup upd_same ((r1.append r2).mono (gle_upd hn)))
    · cases hz
  · cases hz
def lAddL : D → D → Option (List D)
  | .lst a, .lst b => if few (a.length + b.length) then some (a ++ b) else none
  | _, _ => none
theorem k_laddF : R2OkF K rCat lAddL := by
  intro pn w x y d e z Q r p1 p2 hz k
  unfold lAddL at hz
  split at hz
  · split at hz
    · rename_i hf
      cases hz
      cases p1 with
      | lst h1 r1 =>
        cases p2 with
        | lst h2 r2 =>
          exact ⟨_, _, _, _, rfl, rfl, r.ex _ _ h1, r.ex _ _ h2, by rw [r1.length, r2.length]; exact hf.line, fun p hp => k _ _ _ (.refl _) (r.alloc hp) (AF.new r hp (r1.append r2))⟩
    · cases hz
  · cases hz
theorem R2OkF.frozen {rr : R2} {f : D → D → Option (List D)} (h : R2OkF K rr f) : R2Ok K rr (fun d e => (f d e).map .lst) := by
  intro pn w x y d e z Q r p1 p2 hz k
  dsimp only at hz
  cases hf : f d e with
  | none => rw [hf] at hz; cases hz
  | some l =>
    rw [hf] at hz; cases hz
    refine h pn w x y d e l Q r p1 p2 hf fun G' v H' g r' a => ?_
    obtain ⟨G2, g2, r2, p⟩ := AF.rep r' a
    exact k G2 v H' (g.trans g2) r2 p
def lRepL : D → D → Option (List D)
  | .lst a, .int k => if -(2 ^ 63) ≤ k ∧ k < 2 ^ 63 ∧ few (a.length * k.toNat) then some (List.replicate k.toNat a).flatten else none
  | _, _ => none
theorem reps_rep {G : Gh} {vs : List V} {ds : List D} (r : Reps K G vs ds) : ∀ n, Reps K G (List.replicate n vs).flatten (List.replicate n ds).flatten
  | 0 => .nil
  | n + 1 => by
    rw [List.replicate_succ, List.replicate_succ, List.flatten_cons, List.flatten_cons]
    exact r.append (reps_rep r n)
theorem k_lrepF : R2OkF K rRep lRepL := by
  intro pn w x y d e z Q r p1 p2 hz k
  unfold lRepL at hz
  split at hz
  · split at hz
    · rename_i hf
      cases hz
      cases p2
      cases p1 with
      | lst h1 r1 =>
        exact ⟨_, _, _, rfl, rfl, r.ex _ _ h1, hf.1, hf.2.1, by rw [r1.length]; exact hf.2.2.line, fun p hp => k _ _ _ (.refl _) (r.alloc hp) (AF.new r hp (reps_rep r1 _))⟩
    · cases hz
  · cases hz
/-- + of ints, texts, tuples, lists -/
def fAdd : D → D → Option D
  | .int i, .int j => some (.int (i + j))
  | .str a, .str b => sAdd (.str a) (.str b)
  | .tup a, .tup b => tAdd (.tup a) (.tup b)
  | .lst a, .lst b => (lAddL (.lst a) (.lst b)).map .lst
  | _, _ => none
def rAddX (K : PySem.W.Frag) : R2 := fun x y H Q => (rI0 fun i j => .int (i + j)) x y H Q ∨ (∃ i j, x = .str i ∧ y = .str j ∧ i.length + j.length ≤ sizeLine ∧ Q (.str (i ++ j)) H) ∨ rCatA K x y H Q ∨ rCat x y H Q
theorem op_addX {X : Cx} : OpR X (binaryOp .Add) (rAddX X.K) := op_add.or (op_add_str.or (op_catA.or op_cat))
theorem k_addX : R2Ok K (rAddX K) fAdd := by
  intro pn w x y d e z Q r p1 p2 hz k
  unfold fAdd at hz
  split at hz
  · exact .inl (k_add pn w x y _ _ z Q r p1 p2 hz k)
  · exact .inr (.inl (k_sadd pn w x y _ _ z Q r p1 p2 hz k))
  · exact .inr (.inr (.inl (k_tadd pn w x y _ _ z Q r p1 p2 hz k)))
  · exact .inr (.inr (.inr (k_laddF.frozen pn w x y _ _ z Q r p1 p2 hz k)))
  · cases hz
def fMul : D → D → Option D
  | .int i, .int j => iMul (.int i) (.int j)
  | .lst a, .int k => (lRepL (.lst a) (.int k)).map .lst
  | _, _ => none
def rMulX : R2 := fun x y H Q => (rI CMulW fun i j => .int (i * j)) x y H Q ∨ rRep x y H Q
theorem op_mulX {X : Cx} : OpR X (binaryOp .Mult) rMulX := op_mulW.or op_rep
theorem k_mulX : R2Ok K rMulX fMul := by
  intro pn w x y d e z Q r p1 p2 hz k
  unfold fMul at hz
  split at hz
  · exact .inl (k_mul pn w x y _ _ z Q r p1 p2 hz k)
  · exact .inr (k_lrepF.frozen pn w x y _ _ z Q r p1 p2 hz k)
  · cases hz
end
abbrev MO := S → R (Option Int)
def JO (X : Cx) (W : WX) (e : Option Expr) (m : MO) : Prop := PO X e (tG X.K X.pn W (fun _ (b a : Option Int) => b = a) m)
theorem PO.imp {X : Cx} {e : Option Expr} {t t' : TO} (h : PO X e t) (i : ∀ σ H Q, t' σ H Q → t σ H Q) : PO X e t' := ⟨fun pins s σ H Q I q => h.run pins s σ H Q I (i _ _ _ q)⟩
def mNoP : MO := ret none
def mPart (m : ME) : MO := bnd m fun d s => match d with
  | .int i => .ok (some i) s
  | _ => .stuck
def cutL {α : Type} (xs : List α) (lo hi : Option Int) : List α := (xs.drop (HT.sIx xs.length 0 lo)).take (HT.sIx xs.length xs.length hi - HT.sIx xs.length 0 lo)
def cutD (d : D) (lo hi : Option Int) : Option D := match d with
  | .tup ds => some (.tup (cutL ds lo hi))
  | .lst ds => some (.lst (cutL ds lo hi))
  | .kl ds => some (.lst (cutL ds lo hi))
  | .kt ds => if HT.sIx ds.length 0 lo = 0 ∧ HT.sIx ds.length ds.length hi = ds.length then some (.kt ds) else some (.tup (cutL ds lo hi))
  | .str z => if few z.length then some (.str (cutS z lo hi)) else none
  | _ => none
theorem reps_cut {K : PySem.W.Frag} {G : Gh} {vs : List V} {ds : List D} (r : Reps K G vs ds) (lo hi : Option Int) : Reps K G (cutV vs lo hi) (cutL ds lo hi) := by
  unfold cutV cutL
  rw [r.length]
  exact (r.drop _).take _
def rSlX (K : PySem.W.Frag) : V → Option Int → Option Int → Hp → VK → Prop := fun x lo hi H Q => rSlL K x lo hi H Q ∨ rSlA K x lo hi H Q ∨ rSlS x lo hi H Q
theorem sl_X {X : Cx} : SlR X (rSlX X.K) := sl_list.or (sl_tupA.or sl_str)
theorem cut_whole {α : Type} {xs : List α} {lo hi : Option Int} (h : HT.sIx xs.length 0 lo = 0 ∧ HT.sIx xs.length xs.length hi = xs.length) : cutL xs lo hi = xs := by
  unfold cutL
  rw [h.1, h.2, List.drop_zero, Nat.sub_zero, List.take_length]
theorem k_sl {K : PySem.W.Frag} {pn : List (Addr × Obj)} {w : Wd} {x : V} {d z : D} {lo hi : Option Int} {Q : VK} (r : Rel K pn w) (p : AL K w x d) (hz : cutD d lo hi = some z)
    (k : ∀ G' v H', w.G.le G' → Rel K pn { w with G := G', H := H' } → Rep K G' v z → Q v H') : rSlX K x lo hi w.H Q := by
  have lcase : ∀ {ds : List D}, itD d = some ds → isTup d = false → z = .lst (cutL ds lo hi) → rSlX K x lo hi w.H Q := fun {ds} hi' ht ez => by
    subst ez
    obtain ⟨a, vs, rfl, _, hq, _, rs⟩ := AL.sq r p hi'
    refine .inl ⟨a, vs, rfl, hq ht, fun q hn => ?_⟩
    obtain ⟨G2, g2, r2, p2⟩ := AF.rep (r.alloc hn) (AF.new r hn (reps_cut rs lo hi))
    exact k G2 _ _ g2 r2 p2
  unfold cutD at hz
  split at hz
  · cases hz
    rcases p with p | ⟨a, vs, es, rfl, he, _⟩
    · cases p with
      | tup hs rs =>
        refine .inr (.inl ⟨_, _, rfl, tqT r.ex hs, fun hw => ?_, fun _ q hn => ?_⟩)
        · rw [rs.length] at hw
          rw [cut_whole hw] at k
          exact k _ _ _ (.refl _) r (.tup hs rs)
        · have hf := r.noF hn
          exact k _ _ _ (gle_upd hf) (r.new hn) (.tup upd_same ((reps_cut rs lo hi).mono (gle_upd hf)))
    · cases he
  · cases hz; exact lcase rfl rfl rfl
  · cases hz; exact lcase rfl rfl rfl
  · rcases p with p | ⟨a, vs, es, rfl, he, _⟩
    · cases p with
      | kt hs rs =>
        refine .inr (.inl ⟨_, _, rfl, sqT_mono r.ex hs, fun hw => ?_, fun hnw q hn => ?_⟩)
        · rw [rs.length] at hw
          rw [if_pos hw] at hz
          cases hz
          exact k _ _ _ (.refl _) r (.kt hs rs)
        · rw [rs.length] at hnw
          rw [if_neg hnw] at hz
          cases hz
          have hf := r.noF hn
          exact k _ _ _ (gle_upd hf) (r.new hn) (.tup upd_same ((reps_cut rs lo hi).mono (gle_upd hf)))
    · cases he
  · split at hz
    · rename_i hf
      cases hz
      have p := p.rep (fun _ => by simp)
      cases p
      exact .inr (.inr ⟨_, rfl, hf.line, k _ _ _ (.refl _) r (.str _)⟩)
    · cases hz
  · cases hz
/-- of a slot -/
def mSlN (i : Nat) (lo hi : MO) : ME := fun s => match cur s i with
  | some _ => bnd lo (fun l => bnd hi fun h s => match cur s i with
    | some d => lift (cutD d l h) s
    | none => .stuck) s
  | none => .stuck
section
variable {X : Cx} {W : WX} {e : Expr} {m : ME} {lo hi : Option Expr} {ml mh : MO} {pos p2 : Pos}
theorem jo_none : JO X W none mNoP := by
  refine PO.imp po_none fun σ H Q h => ?_
  obtain ⟨w, rfl, rfl, r, h⟩ := h
  exact fin r h rfl
theorem jo_some (h : JE X W e m) : JO X W (some e) (mPart m) := by
  refine PO.imp (po_some h) fun σ H Q h => ?_
  obtain ⟨w, rfl, rfl, r, h⟩ := h
  refine run r h fun d s' G' v H' g r' p h' => ?_
  split at h'
  · cases p
    exact ⟨_, rfl, fin r' h' rfl⟩
  · exact h'.elim
theorem je_slN (i : Nat) {x : Str} {p : Pos} (hl : JO X W lo ml) (hh : JO X W hi mh) (hN : X.N[i]? = some x := by rfl) (hv : Vis X.env.scope x := by first | exact Or.inl rfl | exact Or.inr (Or.inl rfl) | exact Or.inr (Or.inr rfl)) (hd : (x == ("__debug__" : Str)) = false := by decide) (hcd : (x == ("__classdict__" : Str)) = false := by decide) :
    JE X W (.Subscript (.Name x p) (.Slice lo hi none p2) pos) (mSlN i ml mh) := by
  refine PE.imp (pe_slice sl_X (pv i hN hv hd hcd) hl hh) fun σ H Q h => ?_
  obtain ⟨w, rfl, rfl, r, h⟩ := h
  unfold mSlN at h
  cases hc : cur w.s i with
  | none => simp only [hc] at h; exact h.elim
  | some d0 =>
    simp only [hc] at h
    obtain ⟨v, h1, _⟩ := slot_val r hc
    refine ⟨v, h1, ?_⟩
    refine run r h fun l s2 G2 l2 H2 g2 r2 e2 h2 => ?_
    cases e2
    refine run r2 h2 fun u s3 G3 u3 H3 g3 r3 e3 h3 => ?_
    cases e3
    cases hc2 : cur s3 i with
    | none => simp only [hc2] at h3; exact h3.elim
    | some d =>
      simp only [hc2] at h3
      obtain ⟨v2, h4, h5⟩ := slot_val r3 hc2
      have h4 : w.σ[i]? = some (some v2) := h4
      rw [h1] at h4
      cases h4
      cases hz : cutD d l u with
      | none => rw [hz] at h3; exact h3.elim
      | some z =>
        rw [hz] at h3
        exact k_sl r3 h5 hz fun G4 v4 H4 g4 r4 p4 => h3 G4 v4 H4 g4 r4 p4
end
end DL
namespace DL
open PySem PySem.Spec L2
/-- xs.append(e), xs in slot i -/
def mApp (i : Nat) (m : ME) : ME := fun s => match s.sl[i]? with
  | some (.own _) => bnd m (fun d s => match s.sl[i]? with
    | some (.own ds) => if few (ds.length + 1) then .ok .non (s.put i (.own (ds ++ [d]))) else .stuck
    | _ => .stuck) s
  | _ => .stuck
/-- xs[k] = e -/
def mSetIx (i : Nat) (mk mv : ME) : MS := bnd mv fun v => bnd (fun s => match s.sl[i]? with | some (.own _) => mk s | _ => .stuck) fun k s => match s.sl[i]?, k with
  | some (.own ds), .int j => (match ixN ds.length j with
    | some n => .ok .nx (s.put i (.own (ds.set n v)))
    | none => .stuck)
  | _, _ => .stuck
section
variable {X : Cx} {W : WX} {e : Expr} {m : ME} {i : Nat} {x : Str} {p apos cpos pos : Pos}
theorem je_app (h : JE X W e m) (hN : X.N[i]? = some x := by rfl) (hv : Vis X.env.scope x := by first | exact Or.inl rfl | exact Or.inr (Or.inl rfl) | exact Or.inr (Or.inr rfl)) (hd : (x == ("__debug__" : Str)) = false := by decide) (hcd : (x == ("__classdict__" : Str)) = false := by decide)
    (hbase : attributeBase (.Name x p) "append" X.env (eval (.Name x p) X.env) = eval (.Name x p) X.env := by rfl)
    (hfew : ((backTo cpos (starEach [e] X.env)).all (fun x => !x.1) && (backToKw cpos (keywordEach [] X.env)).all (fun x => x.1.isSome) && decide ([e].length + ([] : List Keyword).length + (if ([] : List Keyword).isEmpty then 0 else 1) < 30)) = true := by rfl)
    (hline : (apos.endLine == cpos.line) = true := by rfl) (hs : starEach [e] X.env = (false, eval e X.env) :: starEach [] X.env := by rfl) (hplain : (backTo cpos (starEach [] X.env)).any (·.1) = false := by rfl) :
    JE X W (.Call (.Attribute (.Name x p) "append" apos) [e] [] cpos) (mApp i m) := by
  refine PE.imp (pe_bm PySem.F.plainAttrs_list PySem.F.slot_list_append PySem.F.type_list_append mt_append (pv i hN hv hd hcd) (pa_cons h pa_nil hs) hbase hfew hline hs hplain) fun σ H Q h => ?_
  obtain ⟨w, rfl, rfl, r, h⟩ := h
  unfold mApp at h
  split at h
  · rename_i ds0 hs0
    obtain ⟨a, vs, z1, z2, z3, _⟩ := r.sl.own i _ hs0
    refine ⟨_, z1, .inl ⟨rfl, vs, SqL.of z2⟩, ?_⟩
    refine run r h fun d s' G' v H' g r' p h' => ?_
    split at h'
    · rename_i ds hs1
      split at h'
      · rename_i hf
        obtain ⟨b, us, y1, y2, y3, _⟩ := r'.sl.own i _ hs1
        have y1 : w.σ[i]? = some (some (.ref b)) := y1
        rw [z1] at y1; cases y1
        refine ⟨_, us, v, rfl, rfl, y2, ?_, ?_⟩
        · rw [y3.length]; exact hf.line
        · exact h' _ _ _ (.refl _) (r'.mut hs1 z1 (y3.append (.cons p .nil))) .non
      · exact h'.elim
    · exact h'.elim
  · exact h.elim
theorem js_setIx {k : Expr} {mk : ME} {spos : Pos} (hv : JE X W e m) (hk : JE X W k mk) (hN : X.N[i]? = some x := by rfl) (hvis : Vis X.env.scope x := by first | exact Or.inl rfl | exact Or.inr (Or.inl rfl) | exact Or.inr (Or.inr rfl)) (hd : (x == ("__debug__" : Str)) = false := by decide) (hcd : (x == ("__classdict__" : Str)) = false := by decide)
    (ha : ∀ v, assign (.Subscript (.Name x p) k pos) X.env v = (do
      let ov ← holding [v] (eval (.Name x p) X.env)
      let iv ← holding [v, ov] (eval k X.env)
      standAt pos
      holding [v, ov, iv] (setItem ov iv v)
      release [v, ov, iv] []) := by intro _; rfl) (hs : swapsWithSole [.Subscript (.Name x p) k pos] e spos.line X.env = pure false := by rfl) (hw : swappedStores [.Subscript (.Name x p) k pos] e X.env = pure none := by rfl)
    (h1 : (assignEach [.Subscript (.Name x p) k pos] X.env).map (·.2) = [assign (.Subscript (.Name x p) k pos) X.env] := by rfl) : JS X W (.Assign [.Subscript (.Name x p) k pos] e spos) (mSetIx i mk m) := by
  refine PS.imp (ps_asg hv (pg_sub (pv i hN hvis hd hcd) hk set_list ha) hs hw h1) fun D σ H h => ?_
  obtain ⟨w, rfl, rfl, r, h⟩ := h
  refine runS r h fun d s' G' v H' g r' p h' => ?_
  cases hx : s'.sl[i]? with
  | none => simp only [bnd, hx] at h'; exact h'.elim
  | some sl =>
    cases sl with
    | own ds0 =>
      obtain ⟨a, vs, z1, z2, z3, _⟩ := r'.sl.own i _ hx
      refine ⟨_, z1, ?_⟩
      have h2 : okS X.K X.pn W { w with G := G', H := H', s := s' } D (bnd mk (fun k s => match s.sl[i]?, k with | some (.own ds), .int j => (match ixN ds.length j with | some n => .ok .nx (s.put i (.own (ds.set n d))) | none => .stuck) | _, _ => .stuck) s') := by
        unfold bnd at h'
        simp only [hx] at h'
        exact h'
      refine runS r' h2 fun k2 s2 G2 v2 H2 g2 r2 p2 h3 => ?_
      dsimp only at h3
      split at h3
      · rename_i ds j hs1
        split at h3
        · rename_i n hn
          obtain ⟨b, us, y1, y2, y3, _⟩ := r2.sl.own i _ hs1
          have y1 : w.σ[i]? = some (some (.ref b)) := y1
          have z1 : w.σ[i]? = some (some (.ref a)) := z1
          rw [z1] at y1; cases y1
          cases p2
          refine ⟨_, us, j, n, rfl, rfl, y2, by rw [y3.length]; exact hn, ?_⟩
          exact h3 _ _ _ (.refl _) (r2.mut hs1 z1 (Reps.set (p.mono g2) n y3))
        · exact h3.elim
      · exact h3.elim
    | _ => simp only [bnd, hx] at h'; exact h'.elim
end
/-- no caught error stands in a slot -/
def noX (s : S) : Bool := s.sl.all fun x => match x with | .xn _ => false | _ => true
theorem SlRel.pn {K : PySem.W.Frag} {pn pn' : List (Addr × Obj)} {H0 : Hp} {G : Gh} {σ : L2.St} {H : Hp} {s : S} (h : SlRel K pn H0 G σ H s.sl) (n : noX s = true) : SlRel K pn' H0 G σ H s.sl :=
  ⟨h.len, h.imm, h.own, h.dis, fun i x e => by
    have := List.all_eq_true.mp n _ (List.mem_of_getElem? e)
    cases this⟩
theorem Rel.pn {K : PySem.W.Frag} {pn pn' : List (Addr × Obj)} {w : Wd} (r : Rel K pn w) (n : noX w.s = true) : Rel K pn' w := ⟨r.ex, r.le, r.st, r.sl.pn n, r.pr, r.tb⟩
def wipeS (s : S) : List Nat → S
  | [] => s
  | v :: vs => (wipeS s vs).put v .emp
theorem Rel.wipe {K : PySem.W.Frag} {pn : List (Addr × Obj)} {w : Wd} (r : Rel K pn w) : ∀ vs : List Nat, Rel K pn { w with σ := L2.wipe w.σ vs, s := wipeS w.s vs }
  | [] => r
  | v :: vs => Rel.clr (i := v) (v := none) (Rel.wipe r vs)
/-- the turns: what is made so far, the items left -/
def lcs (g : MG) (t : MT) (m : ME) (vs : List Nat) : List D → List D → MA
  | acc, [] => fun s => .ok acc s
  | acc, d :: ds => fun s => match g d with
    | none => .stuck
    | some l => match t (s.puts l) with
      | .ok b s1 => if b then (match m s1 with
          | .ok z s2 => if few (acc.length + 1) ∧ noX s2 = true then lcs g t m vs (acc ++ [z]) ds (wipeS s2 vs) else .stuck
          | _ => .stuck) else if noX s1 = true then lcs g t m vs acc ds (wipeS s1 vs) else .stuck
      | _ => .stuck
/-- [m for g in it if t]; vs: the own names' slots -/
def mLc (it : MA) (g : MG) (t : MT) (m : ME) (vs : List Nat) : MA := bnd it fun ds s => if noX s = true then lcs g t m vs [] ds (wipeS s vs) else .stuck
abbrev WF : WX := fun _ _ _ _ => False
def mYes : MT := ret true
def JTs (X : Cx) (W : WX) (ifs : List Expr) (t : MT) : Prop := PTs X ifs (tG X.K X.pn W AB t)
theorem PTs.imp {X : Cx} {e : List Expr} {t t' : TT} (h : PTs X e t) (i : ∀ σ H Q, t' σ H Q → t σ H Q) : PTs X e t' := ⟨fun pins s σ H Q I q => h.run pins s σ H Q I (i _ _ _ q)⟩
section
variable {X : Cx} {W : WX}
theorem jts_nil : JTs X W [] mYes := by
  refine PTs.imp pts_nil fun σ H Q h => ?_
  obtain ⟨w, rfl, rfl, r, h⟩ := h
  exact fin r h rfl
theorem jts_one {c : Expr} {t : MT} (h : JT X W c t) : JTs X W [c] t := pts_one h
theorem Rel.prPush {K : PySem.W.Frag} {pn : List (Addr × Obj)} {w : Wd} (r : Rel K pn w) {p : Addr} {o : HO} (hp : w.H p = none) (ho : isT o = false := by rfl) : Rel K pn { w with H := upd w.H p o, pr := (p, o) :: w.pr } := by
  have r1 := r.alloc (o := o) hp
  refine ⟨r1.ex, r1.le, r1.st, r1.sl, fun q hq => ?_, r1.tb⟩
  rcases List.mem_cons.mp hq with e | e
  · subst e
    exact ⟨upd_same, r.noF hp, ⟨r.noA hp, ho⟩, r.no0 hp, r.noS hp⟩
  · exact r1.pr q e
theorem Rel.prPut {K : PySem.W.Frag} {pn : List (Addr × Obj)} {w : Wd} {p : Addr} {o o' : HO} {l : List (Addr × HO)} (r : Rel K pn w) (e : w.pr = (p, o) :: l) (hl : ∀ q ∈ l, q.1 ≠ p) (ho : isT o' = false := by rfl) : Rel K pn { w with H := upd w.H p o', pr := (p, o') :: l } := by
  have m : (p, o) ∈ w.pr := by rw [e]; exact List.mem_cons_self
  obtain ⟨p1, p2, p3, p4, p5⟩ := r.pr (p, o) m
  dsimp only at p1 p2 p3 p4 p5
  refine ⟨fun a u h => ?_, ⟨r.le.g, r.le.nw, r.le.fz, fun a u h n t => ?_, fun a u h => ?_, fun a ps h => ?_⟩, ⟨r.st.len, fun n a u h1 h2 => (r.st.at_ n a u h1 h2).mono (.refl _) fun x h => ?_, r.st.nof, r.st.nd⟩, ⟨r.sl.len, r.sl.imm, fun i ds h => ?_, r.sl.dis, r.sl.xn⟩, fun q hq => ?_, r.tb.step (.refl _) fun P ps z f a2 h => ⟨f, a2, (upd_ne (show P ≠ p from fun e => z (e ▸ p4))).trans h⟩⟩
  · have h : w.G.F a = some u := h
    exact (upd_ne (show a ≠ p from fun z => by rw [z, p2] at h; cases h)).trans (r.ex a u h)
  · have h : w.H0 a = some u := h
    exact (upd_ne (show a ≠ p from fun z => by rw [z, p4] at h; cases h)).trans (r.le.kp a u h n t)
  · obtain ⟨u', h'⟩ := r.le.dm a u h
    by_cases z : a = p
    · exact ⟨o', by subst z; exact upd_same⟩
    · exact ⟨u', (upd_ne z).trans h'⟩
  · obtain ⟨qs, h'⟩ := r.le.tt a ps h
    have h : w.H0 a = some (.tbl ps) := h
    exact ⟨qs, (upd_ne (show a ≠ p from fun z => by rw [z, p4] at h; cases h)).trans h'⟩
  · have ma : a ∈ w.G.ad := List.mem_of_getElem? h1
    exact (upd_ne (show a ≠ p from fun z => p3.1 (z ▸ ma))).trans h
  · obtain ⟨a, vs, h1, h2, h3⟩ := r.sl.own i ds h
    exact ⟨a, vs, h1, (upd_ne (show a ≠ p from fun z => p5 i ds h (z ▸ h1))).trans h2, h3⟩
  · rcases List.mem_cons.mp hq with z | z
    · subst z
      exact ⟨upd_same, p2, ⟨p3.1, ho⟩, p4, p5⟩
    · obtain ⟨q1, q2⟩ := r.pr q (by rw [e]; exact List.mem_cons_of_mem _ z)
      exact ⟨(upd_ne (hl q z)).trans q1, q2⟩
theorem Rel.prPop {K : PySem.W.Frag} {pn : List (Addr × Obj)} {w : Wd} {p : Addr} {vs : List V} {ds : List D} {l : List (Addr × HO)} (r : Rel K pn w) (e : w.pr = (p, .lst vs) :: l) (hl : ∀ q ∈ l, q.1 ≠ p) (h : Reps K w.G vs ds) : Rel K pn { w with pr := l } ∧ AF K { w with pr := l } (.ref p) ds := by
  have m : (p, HO.lst vs) ∈ w.pr := by rw [e]; exact List.mem_cons_self
  obtain ⟨p1, p2, p3, p4, p5⟩ := r.pr _ m
  exact ⟨⟨r.ex, r.le, r.st, r.sl, fun q hq => r.pr q (by rw [e]; exact List.mem_cons_of_mem _ hq), r.tb⟩, p, vs, rfl, p1, h, p2, p3.1, p4, p5, hl⟩
theorem wipeS_emp {s : S} : ∀ {vs : List Nat} {v : Nat} {x : Slot}, v ∈ vs → (wipeS s vs).sl[v]? = some x → x = .emp
  | [], _, _, h, _ => by cases h
  | u :: vs, v, x, h, e => by
    have e : ((wipeS s vs).sl.set u .emp)[v]? = some x := e
    rcases set_get e with ⟨e1, e2⟩ | ⟨e1, e2⟩
    · exact e2
    · rcases List.mem_cons.mp h with z | z
      · exact (e1 z).elim
      · exact wipeS_emp z e2
/-- back from the block: the own names' slots are empty, the others are as they were -/
theorem Rel.unwipe {K : PySem.W.Frag} {pn : List (Addr × Obj)} {w : Wd} {σ : L2.St} {s : S} {vs : List Nat} (r : Rel K pn { w with σ := L2.wipe σ vs, s := wipeS s vs }) : Rel K pn { w with σ := σ, s := wipeS s vs } := by
  have ag : ∀ (i : Nat) (x : Slot), (wipeS s vs).sl[i]? = some x → x ≠ Slot.emp → (L2.wipe σ vs)[i]? = σ[i]? := fun i x h hx => wipe_out fun hi => hx (wipeS_emp hi h)
  refine ⟨r.ex, r.le, r.st, ⟨?_, fun i d h => ?_, fun i ds h => ?_, fun i j ds es a h1 h2 h3 h4 => ?_, fun i x h => ?_⟩, fun q hq => ?_, r.tb⟩
  · have := r.sl.len
    dsimp only at this ⊢
    rw [wipe_length] at this
    exact this
  · obtain ⟨v, h1, h2⟩ := r.sl.imm i d h
    exact ⟨v, (ag i _ h (by simp)).symm.trans h1, h2⟩
  · obtain ⟨a, us, h1, h2⟩ := r.sl.own i ds h
    exact ⟨a, us, (ag i _ h (by simp)).symm.trans h1, h2⟩
  · exact r.sl.dis i j ds es a h1 h2 ((ag i _ h1 (by simp)).trans h3) ((ag j _ h2 (by simp)).trans h4)
  · obtain ⟨a, oe, tl, cls, d, h1, h2, h3⟩ := r.sl.xn i x h
    exact ⟨a, oe, tl, cls, d, h1, (ag i _ h (by simp)).symm.trans h2, h3⟩
  · obtain ⟨p1, p2, p3, p4, p5⟩ := r.pr q hq
    exact ⟨p1, p2, p3, p4, fun i es h1 h2 => p5 i es h1 ((ag i _ h1 (by simp)).trans h2)⟩
theorem wipe_wipe {σ : L2.St} {vs : List Nat} : L2.wipe (L2.wipe σ vs) vs = L2.wipe σ vs := by
  apply List.ext_getElem?
  intro i
  by_cases hi : i ∈ vs
  · have key : ∀ (vs : List Nat) (σ : L2.St), i ∈ vs → i < σ.length → (L2.wipe σ vs)[i]? = some none := by
      intro vs
      induction vs with
      | nil => intro σ h; cases h
      | cons v vs ih =>
        intro σ h hl
        unfold L2.wipe
        by_cases e : v = i
        · subst e
          rw [List.getElem?_set_self (by rw [wipe_length]; exact hl)]
        · rw [List.getElem?_set_ne e]
          rcases List.mem_cons.mp h with z | z
          · exact (e z.symm).elim
          · exact ih σ z hl
    by_cases hl : i < σ.length
    · rw [key vs _ hi (by rw [wipe_length]; exact hl), key vs σ hi hl]
    · rw [List.getElem?_eq_none (by rw [wipe_length, wipe_length]; omega), List.getElem?_eq_none (by rw [wipe_length]; omega)]
  · rw [wipe_out hi]
section
variable {elt tg iter : Expr} {ifs : List Expr} {scope : Scope} {own : List (Str × Nat)} {pos : Pos} {it : MA} {g : MG} {ix : List Nat} {t : MT} {m : ME}
theorem lc_run {σ : L2.St} {H : Hp} {Q : VK} {vs : List Nat} (hix : ∀ i ∈ ix, i ∈ vs) (hgx : ∀ d l, g d = some l → ∀ p ∈ l, p.1 ∈ ix) (h : tG X.K X.pn W (AF X.K) (mLc it g t m vs) σ H Q) :
    tLc (tG X.K X.pn W (AI X.K) it) (tTg X.K g) (tG X.K [] WF AB t) (tG X.K [] WF (AR X.K) m) vs σ H Q := by
  obtain ⟨w, rfl, rfl, r, h⟩ := h
  refine run r h fun ds s' G' J H' g' r' I h' => ?_
  intro L hL
  split at h'
  · rename_i hx
    -- the block begins
    have r0 : Rel X.K [] { w with G := G', σ := L2.wipe w.σ vs, H := upd H' L (.lst []), s := wipeS s' vs, pr := (L, .lst []) :: w.pr } := Rel.prPush (w := { w with G := G', σ := L2.wipe w.σ vs, H := H', s := wipeS s' vs }) (Rel.wipe (Rel.pn r' hx) vs) hL
    have hl : ∀ q ∈ w.pr, q.1 ≠ L := fun q hq => Rel.noP r' hL q hq
    refine ⟨fun i mm H => mm = ds.length - i ∧ i ≤ ds.length ∧ ∃ (G2 : Gh) (s2 : S) (acc : List D) (us : List V), G'.le G2 ∧ Rel X.K [] { w with G := G2, σ := L2.wipe w.σ vs, H := H, s := wipeS s2 vs, pr := (L, .lst us) :: w.pr } ∧ Reps X.K G2 us acc ∧
      noX (wipeS s2 vs) = true ∧ okG X.K X.pn W (AF X.K) { w with G := G2, H := H, s := wipeS s2 vs } Q (lcs g t m vs acc (ds.drop i) (wipeS s2 vs)), ⟨_, rfl, Nat.zero_le _, G', s', [], [], .refl _, r0, .nil, ?_, okG.up (w := { w with G := G', H := H', s := s' }) h' (.refl _)⟩, ?_⟩
    · -- no error stands there
      refine List.all_eq_true.mpr fun x hxm => ?_
      obtain ⟨i, hi⟩ := List.mem_iff_getElem?.mp hxm
      by_cases hv : i ∈ vs
      · rw [wipeS_emp hv hi]
      · have key : ∀ (vs : List Nat), i ∉ vs → (wipeS s' vs).sl[i]? = s'.sl[i]? := by
          intro vs
          induction vs with
          | nil => intro _; rfl
          | cons v vs ih =>
            intro hn
            simp only [List.mem_cons, not_or] at hn
            show ((wipeS s' vs).sl.set v .emp)[i]? = _
            rw [List.getElem?_set_ne (Ne.symm hn.1), ih hn.2]
        rw [key vs hv] at hi
        exact List.all_eq_true.mp hx _ (List.mem_of_getElem? hi)
    · rintro i mm H2 ⟨rfl, hi, G2, s2, acc, us, g2, r2, rs, hx2, h2⟩
      by_cases hlt : i < ds.length
      · have hd : ds[i]? = some ds[i] := List.getElem?_eq_getElem hlt
        have ed : ds.drop i = ds[i] :: ds.drop (i + 1) := List.drop_eq_getElem_cons hlt
        rw [ed] at h2
        refine .inr ⟨I.go _ _ r2 g2 i hlt, fun H => ∃ (G2 : Gh) (s2 : S) (acc : List D) (us : List V), G'.le G2 ∧ Rel X.K [] { w with G := G2, σ := L2.wipe w.σ vs, H := H, s := wipeS s2 vs, pr := (L, .lst us) :: w.pr } ∧ Reps X.K G2 us acc ∧
            noX (wipeS s2 vs) = true ∧ okG X.K X.pn W (AF X.K) { w with G := G2, H := H, s := wipeS s2 vs } Q (lcs g t m vs acc (ds.drop (i + 1)) (wipeS s2 vs)), fun H' hw => ⟨_, by omega, rfl, hlt, hw⟩, fun x H3 y => ?_⟩
        obtain ⟨G3, g3, r3, p3⟩ := I.yld _ _ r2 g2 i _ x H3 hd y
        have h2' := h2
        unfold lcs at h2'
        cases hl2 : g ds[i] with
        | none => simp only [hl2] at h2'; exact h2'.elim
        | some l =>
          simp only [hl2] at h2'
          refine ⟨[], _, ds[i], l, rfl, r3, p3, hl2, fun lv hv => ?_⟩
          have hlv : ∀ p ∈ lv, p.1 ∈ vs := by
            intro p hp
            have : ∀ {lv : List (Nat × V)} {l : List (Nat × D)}, RepU X.K G3 lv l → ∀ p ∈ lv, ∃ q ∈ l, q.1 = p.1 := by
              intro lv l h
              induction h with
              | nil => intro p hp; cases hp
              | cons a _ ih =>
                intro p hp
                rcases List.mem_cons.mp hp with z | z
                · subst z; exact ⟨_, List.mem_cons_self, a.1.symm⟩
                · obtain ⟨q, q1, q2⟩ := ih p z
                  exact ⟨q, List.mem_cons_of_mem _ q1, q2⟩
            obtain ⟨q, q1, q2⟩ := this hv p hp
            rw [← q2]
            exact hix _ (hgx _ _ hl2 q q1)
          refine ⟨by rw [wipe_upds hlv, wipe_wipe], ?_⟩
          have r4 := Rel.sets r3 hv
          -- the test
          cases ht : t ((wipeS s2 vs).puts l) with
          | exc y s5 => simp only [ht] at h2'; exact h2'.elim
          | stuck => simp only [ht] at h2'; exact h2'.elim
          | ok b s5 =>
            simp only [ht] at h2'
            refine ⟨_, rfl, rfl, r4, ?_⟩
            show okG X.K [] WF AB _ _ (t ((wipeS s2 vs).puts l))
            rw [ht]
            intro G5 b5 H5 g5 r5 e5
            subst e5
            have wσ : L2.wipe (upds (L2.wipe w.σ vs) lv) vs = L2.wipe w.σ vs := by rw [wipe_upds hlv, wipe_wipe]
            cases b5 with
            | false =>
              simp only [Bool.false_eq_true, if_false] at h2' ⊢
              split at h2'
              · rename_i hx5
                have r6 := Rel.wipe (w := { w with G := G5, σ := upds (L2.wipe w.σ vs) lv, H := H5, s := s5, pr := (L, .lst us) :: w.pr }) r5 vs
                dsimp only at r6
                rw [wσ] at r6
                refine ⟨G5, s5, acc, us, (g2.trans g3).trans g5, r6, rs.mono (g3.trans g5), ?_, ?_⟩
                · refine List.all_eq_true.mpr fun x hxm => ?_
                  obtain ⟨i, hi⟩ := List.mem_iff_getElem?.mp hxm
                  by_cases hv2 : i ∈ vs
                  · rw [wipeS_emp hv2 hi]
                  · have key : ∀ (vs : List Nat), i ∉ vs → (wipeS s5 vs).sl[i]? = s5.sl[i]? := by
                      intro vs
                      induction vs with
                      | nil => intro _; rfl
                      | cons v vs ih =>
                        intro hn
                        simp only [List.mem_cons, not_or] at hn
                        show ((wipeS s5 vs).sl.set v .emp)[i]? = _
                        rw [List.getElem?_set_ne (Ne.symm hn.1), ih hn.2]
                    rw [key vs hv2] at hi
                    exact List.all_eq_true.mp hx5 _ (List.mem_of_getElem? hi)
                · exact okG.up (w := { w with G := G2, H := H2, s := wipeS s2 vs }) h2' (g3.trans g5)
              · exact h2'.elim
            | true =>
              simp only [if_true] at h2' ⊢
              cases hm : m s5 with
              | exc y s6 => simp only [hm] at h2'; exact h2'.elim
              | stuck => simp only [hm] at h2'; exact h2'.elim
              | ok z s6 =>
                simp only [hm] at h2'
                split at h2'
                · rename_i hf
                  refine ⟨_, rfl, rfl, r5, ?_⟩
                  show okG X.K [] WF (AR X.K) _ _ (m s5)
                  rw [hm]
                  intro G6 y H6 g6 r6 p6
                  have hH : H6 L = some (.lst us) := (r6.pr (L, .lst us) List.mem_cons_self).1
                  refine ⟨us, hH, ?_, ?_⟩
                  · rw [rs.length]; exact hf.1.line
                  · have r7 := Rel.prPut (o' := .lst (us ++ [y])) r6 rfl hl
                    have r8 := Rel.wipe r7 vs
                    dsimp only at r8
                    rw [wσ] at r8
                    refine ⟨G6, s6, acc ++ [z], us ++ [y], ((g2.trans g3).trans g5).trans g6, r8, (rs.mono ((g3.trans g5).trans g6)).append (.cons p6 .nil), ?_, ?_⟩
                    · refine List.all_eq_true.mpr fun x hxm => ?_
                      obtain ⟨i, hi⟩ := List.mem_iff_getElem?.mp hxm
                      by_cases hv2 : i ∈ vs
                      · rw [wipeS_emp hv2 hi]
                      · have key : ∀ (vs : List Nat), i ∉ vs → (wipeS s6 vs).sl[i]? = s6.sl[i]? := by
                          intro vs
                          induction vs with
                          | nil => intro _; rfl
                          | cons v vs ih =>
                            intro hn
                            simp only [List.mem_cons, not_or] at hn
                            show ((wipeS s6 vs).sl.set v .emp)[i]? = _
                            rw [List.getElem?_set_ne (Ne.symm hn.1), ih hn.2]
                        rw [key vs hv2] at hi
                        exact List.all_eq_true.mp hf.2 _ (List.mem_of_getElem? hi)
                    · exact okG.up (w := { w with G := G2, H := H2, s := wipeS s2 vs }) h2' ((g3.trans g5).trans g6)
                · exact h2'.elim
      · have e : i = ds.length := by omega
        subst e
        rw [List.drop_length] at h2
        refine .inl ⟨I.stop _ _ r2 g2 _ (Nat.le_refl _), ?_⟩
        obtain ⟨r9, a9⟩ := Rel.prPop r2 rfl hl rs
        have r10 := Rel.unwipe (w := { w with G := G2, H := H2 }) (σ := w.σ) (s := s2) (vs := vs) r9
        have a10 : AF X.K { w with G := G2, H := H2, s := wipeS s2 vs } (.ref L) acc := by
          obtain ⟨a, us', e1, e2, e3, e4, e5, e6, e7, e8⟩ := a9
          refine ⟨a, us', e1, e2, e3, e4, e5, e6, fun i es q1 q2 => ?_, e8⟩
          have : i ∉ vs := fun hi => by cases wipeS_emp hi q1
          exact e7 i es q1 ((wipe_out this).trans q2)
        exact h2 G2 _ H2 (.refl _) (Rel.pn r10 hx2) a10
  · exact h'.elim
/-- [elt for tg in iter if ..] -/
theorem jf_lc (hc : X.calm = true) (hN : X.N.Nodup) (hi : JI X W tg iter it) (ok : BlkOk X.N X.env.scope scope own)
    (hg : ∀ (s : Shared) (H : Hp) (C : Addr) (cl : List (Str × Addr)) (fp : List Addr), JG (X.blk s H scope (compEnvC scope cl C X.env) fp) tg g ix) (ht : ∀ (s : Shared) (H : Hp) (C : Addr) (cl : List (Str × Addr)) (fp : List Addr), JTs (X.blk s H scope (compEnvC scope cl C X.env) fp) WF ifs t)
    (he : ∀ (s : Shared) (H : Hp) (C : Addr) (cl : List (Str × Addr)) (fp : List Addr), JE (X.blk s H scope (compEnvC scope cl C X.env) fp) WF elt m) (hix : ∀ i ∈ ix, i ∈ own.map (·.2) := by decide) (hs : ∀ x, foldedSetIterable iter X.env x = pure x := by intro _; rfl) :
    JF X W (.ListComp elt [⟨tg, iter, ifs, 0⟩] scope pos) (mLc it g t m (own.map (·.2))) := by
  have hgx : ∀ d l, g d = some l → ∀ p ∈ l, p.1 ∈ ix := (hg (X.s_0) (X.H_0) 0 [] []).ix
  exact PE.imp (pe_lc (g := tTg X.K g) (tt := tG X.K [] WF AB t) (te := tG X.K [] WF (AR X.K) m) hc hN hi ok (fun s H C cl fp => (hg s H C cl fp).pg) (fun s H C cl fp => ht s H C cl fp) (fun s H C cl fp => he s H C cl fp) hs) fun σ H Q h => lc_run hix hgx h
end
end
end DL
namespace DL
open PySem PySem.Spec PySem.W PySem.Calls PyProof.Rows PySem.HandSPX
structure XPos where
  (a1 a2 b1 b2 b3 b4 b5 c1 c2 c3 c4 : Pos)
def xParams (f : Str) (p : XPos) : Arguments := { posonlyargs := [], args := [{ arg := "self", annotation := none, pos := p.a1 }, { arg := f, annotation := none, pos := p.a2 }], vararg := none, kwonlyargs := [], kw_defaults := [], kwarg := none, defaults := [] }
def xSuper (txt : Str) (p : XPos) (p6 : Pos) : Stmt := .Expr (.Call (.Attribute (.Call (.Name "super" p.b1) [] [] p.b2) "__init__" p.b3) [.Constant (.str txt) 0 p.b4] [] p.b5) p6
def xStore (f : Str) (p : XPos) : Stmt := .Assign [.Attribute (.Name "self" p.c1) f p.c2] (.Name f p.c3) p.c4
def xScope (f : Str) : Scope := { kind := .function, names := [(PySem.Str.ofString "self", .local), (f, .local), (PySem.Str.ofString "__class__", .free), (PySem.Str.ofString "super", .globalImplicit)], isGenerator := false, isCoroutine := false, more := [] }
section
variable {prog : Program} {w : World} {A : Around} {E : Value → Shared → Prop} {h : Heap} {g : Array GenState} {d : Drawn} {t : Nat} {os : OsState}
/-- super().__init__(..), bound to the error at e, is called -/
theorem call_mw {K : Frag} {C u e t0 : Addr} {rest : List Value} {Q : Value → Shared → Prop} (X : K.In h) (q : excInitIn K C veTail "ValueError.__new__" = true)
    (he : h.get? e = some (excO C t0)) (hu : h.get? u = some (kxs_mw "ValueError.__init__" e)) (hrest : rest.length ≤ sizeLine)
    (hq : ∀ h' t1, (∀ b o, b ≠ e → h.get? b = some o → h'.get? b = some o) → h'.get? e = some (excO C t1) → Q .none ⟨h', g, d, t, os⟩) :
    wpAny (model prog w) A (call (.ref u) rest) Q E ⟨h, g, d, t, os⟩ := by
  obtain ⟨nm, N', qn, bs, bm, hdct, sn, sub, ab, col, dd, k0, k1, k2, k3, k5, hC, hT⟩ := excInit_of X q
  refine wpAny_call (codeAny_of_tree ?_)
  show wpAny _ A.in1 (callAny (.ref u) ⟨rest, []⟩) _ _ _
  simp only [callAny]
  refine wpAny_bind (wpAny_load hu ?_)
  simp only [kxs_mw, show (Value.type "method-wrapper" == Value.type "method" || Value.type "method-wrapper" == Value.type "builtin_function_or_method" || Value.type "method-wrapper" == Value.type "method-wrapper") = true by decide, if_true]
  refine KFB.if_so (by decide) ?_
  refine wpAny_bind (check_bound_init F.excBase_ValueError.toExcCallFacts hC he rfl ?_)
  refine wpAny_bind (wpAny_pure (wpAny_pure ?_))
  refine ⟨plainId_quiet F.excBase_ValueError.init.plain _, codeAny_builtin F.excBase_ValueError.initEntry ?_⟩
  exact exc_init_tree (cls := .ref C) (t0 := t0) (dv := none) (c2 := .none) (c3 := .none) (b4 := .bool false) he hrest fun h' k e' _ => hq h' _ k e'
end
end DL
namespace DL
open PySem PySem.Spec PySem.W PySem.Calls PyProof.Rows PySem.HandSPX
end DL
namespace DL
open PySem PySem.Spec L2
section
variable {X : Cx} {C : Addr} {f c : Str}
/-- raise c(e), c the program's error with one field f -/
def mRaise (c f : Str) (m : ME) : MS := bnd m fun d s => .exc ⟨c, [(f, d)]⟩ s
end
end DL
namespace DL
open PySem PySem.Spec L2
/-- is the error's class one that the clause names: by a table of the program's classes (k: the clause) -/
abbrev Sub := Str → Option Bool
theorem Rel.xnSet {K : PySem.W.Frag} {w : Wd} {a : Addr} {oe : Obj} {tl : List (Addr × Obj)} {cls : Value} {d : Option Addr} {x : Exc} {i : Nat} (r : Rel K ((a, oe) :: tl) w) (hz : L2.Zc cls d oe) (hx : XRep K w.G cls d x) : Rel K ((a, oe) :: tl) { w with σ := w.σ.set i (some (.ref a)), s := w.s.put i (.xn x) } := by
  refine ⟨r.ex, r.le, r.st, ⟨by show (w.σ.set i (some (.ref a))).length = (w.s.sl.set i (.xn x)).length; rw [List.length_set, List.length_set]; exact r.sl.len, fun j e q => ?_, fun j ds q => ?_, fun j k ds es b q1 q2 q3 q4 => ?_, fun j y q => ?_⟩, fun q hq => ?_, r.tb⟩
  · rcases set_get q with ⟨e1, e2⟩ | ⟨e1, e2⟩
    · cases e2
    · obtain ⟨u, h1, h2⟩ := r.sl.imm j e e2
      exact ⟨u, (List.getElem?_set_ne (Ne.symm e1)).trans h1, h2⟩
  · rcases set_get q with ⟨e1, e2⟩ | ⟨e1, e2⟩
    · cases e2
    · obtain ⟨b, vs, h1, h2⟩ := r.sl.own j ds e2
      exact ⟨b, vs, (List.getElem?_set_ne (Ne.symm e1)).trans h1, h2⟩
  · rcases set_get q1 with ⟨e1, e2⟩ | ⟨e1, e2⟩
    · cases e2
    · rcases set_get q2 with ⟨e3, e4⟩ | ⟨e3, e4⟩
      · cases e4
      · exact r.sl.dis j k ds es b e2 e4 ((List.getElem?_set_ne (Ne.symm e1)).symm.trans q3) ((List.getElem?_set_ne (Ne.symm e3)).symm.trans q4)
  · have hl : j < w.σ.length := by rw [r.sl.len]; exact set_lt q
    rcases set_get q with ⟨e1, e2⟩ | ⟨e1, e2⟩
    · subst e1; cases e2
      exact ⟨a, oe, tl, cls, d, rfl, List.getElem?_set_self hl, hz, hx⟩
    · obtain ⟨b, ob, t2, c2, d2, h1, h2, h3⟩ := r.sl.xn j y e2
      exact ⟨b, ob, t2, c2, d2, h1, (List.getElem?_set_ne (Ne.symm e1)).trans h2, h3⟩
  · obtain ⟨p1, p2, p3, p4, p5⟩ := r.pr q hq
    refine ⟨p1, p2, p3, p4, fun j es h1 h2 => ?_⟩
    rcases set_get h1 with ⟨e1, e2⟩ | ⟨e1, e2⟩
    · cases e2
    · exact p5 j es e2 ((List.getElem?_set_ne (Ne.symm e1)).symm.trans h2)
/-- e.f, e in slot i -/
def mXf (i : Nat) (c f : Str) : ME := fun s => match s.sl[i]? with
  | some (.xn x) => if x.c = c then (match x.fs.lookup f with
      | some d => .ok d s
      | none => .stuck) else .stuck
  | _ => .stuck
theorem repF_get {K : PySem.W.Frag} {G : Gh} : ∀ {fvs : List (Str × V)} {fs : List (Str × D)} {f : Str} {d : D}, RepF K G fvs fs → fs.lookup f = some d → ∃ v, fvs.lookup f = some v ∧ Rep K G v d
  | _, _, _, _, .nil, h => by cases h
  | _, _, f, d, .cons (f := g) (v := v) (d := d') p r, h => by
    by_cases e : (f == g) = true
    · simp only [List.lookup, e] at h
      cases h
      exact ⟨v, by simp only [List.lookup, e], p⟩
    · have e : (f == g) = false := by simpa using e
      simp only [List.lookup, e] at h
      obtain ⟨u, h1, h2⟩ := repF_get r h
      exact ⟨u, by simp only [List.lookup, e]; exact h1, h2⟩
section
variable {X : Cx} {a : Addr} {oe : Obj} {cls : Value} {d : Option Addr} {pn : List (Addr × Obj)} {i : Nat} {y n c : Str} {p pos : Pos}
theorem je_xf (T : XfC X.K (He.ga X.K c)) (hno : PySem.W.findIn X.K (.ref (He.ga X.K c)) n = some none) (hz : L2N.Zn cls d oe) (hf : ∃ vs, oe.data = .fields vs) (hN : X.N[i]? = some y := by rfl) (hv : Vis X.env.scope y := by first | exact Or.inl rfl | exact Or.inr (Or.inl rfl) | exact Or.inr (Or.inr rfl)) (hd : (y == ("__debug__" : Str)) = false := by decide) (hcd : (y == ("__classdict__" : Str)) = false := by decide)
    (hb : attributeBase (.Name y p) n X.env (eval (.Name y p) X.env) = eval (.Name y p) X.env := by rfl) : JE (X.suite a ((a, oe) :: pn)) WF (.Attribute (.Name y p) n pos) (mXf i c n) := by
  refine PE.imp (pe_xf (C := He.ga X.K c) T hno hz.zc hf (pv (X := X.suite a ((a, oe) :: pn)) i hN hv hd hcd) hb) fun σ H Q h => ?_
  obtain ⟨w, rfl, rfl, r, h⟩ := h
  unfold mXf at h
  split at h
  · rename_i x hx
    split at h
    · rename_i hc
      split at h
      · rename_i dd hl
        obtain ⟨a', oe', tl, cls', d', e1, e2, e3, e4⟩ := r.sl.xn i x hx
        cases e1
        obtain ⟨z1, z2, _⟩ := hz
        obtain ⟨z3, z4⟩ := e3
        have ec : cls' = cls := z3.symm.trans z1
        have ed : d' = d := z4.symm.trans z2
        subst ec ed
        obtain ⟨q1, q2⟩ := e4
        cases hfs : x.fs with
        | nil => rw [hfs] at hl; cases hl
        | cons g gs =>
          rw [hfs] at q2 hl
          obtain ⟨b, fvs, k1, k2, k3⟩ := q2
          obtain ⟨v, l1, l2⟩ := repF_get k3 hl
          exact ⟨_, e2, rfl, by rw [q1, hc], b, fvs, v, k1, r.ex _ _ k2, l1, h _ _ _ (.refl _) r l2⟩
      · exact h.elim
    · exact h.elim
  · exact h.elim
end
end DL
namespace DL
open PySem PySem.Spec L2
def tyD : D → Option String
  | .non => some "NoneType" | .bl _ => some "bool" | .int _ => some "int" | .str _ => some "str" | .tup _ => some "tuple"
  | .lst _ => some "list" | .kl _ => some "list" | .nod => some "dict" | .loc _ => none | .ins _ _ => none | .kt _ => some "tuple" | .cla _ => none
def subT (a b : String) : Bool := a == b || (a == "bool" && b == "int")
def tysL : List String := ["NoneType", "bool", "int", "str", "tuple", "list", "dict"]
def tysR : List String := ["bool", "int", "str", "tuple", "list", "dict"]
theorem kit_tab : (tysL.all fun a => tysR.all fun b => decide (kitB a b = some (subT a b))) = true := by decide +kernel
theorem tyD_in {d : D} {t : String} (h : tyD d = some t) : t ∈ tysL := by
  cases d <;> cases h <;> simp [tysL]
theorem kit_tb {K : PySem.W.Frag} {a b : String} (ha : a ∈ tysL) (hb : b ∈ tysR) : PySem.W.kitOne K (.type a) (.type b) = some (subT a b) := by
  have h := kit_tab
  rw [List.all_eq_true] at h
  have h2 := h a ha
  rw [List.all_eq_true] at h2
  exact kit_ty (of_decide_eq_true (h2 b hb))
theorem tyx_of {K : PySem.W.Frag} {pn : List (Addr × Obj)} {w : Wd} {x : V} {d : D} {t : String} (r : Rel K pn w) (p : AL K w x d) (h : tyD d = some t) : TyX K w.H x (.type t) := by
  have ls : ∀ {a : Addr} {vs : List V}, SqL K w.H a vs → TyX K w.H (.ref a) (.type "list") := fun {a vs} hs => by
    rcases hs with (q | ⟨o, q⟩) | ⟨o, its, n, h1, h2, _⟩
    · exact .base (.lst q)
    · exact .base (.frz q)
    · exact .kList h1 h2
  have tps : ∀ {a : Addr} {vs : List V}, SqT K w.H a vs → TyX K w.H (.ref a) (.type "tuple") := fun {a vs} hs => by
    rcases hs with (q | ⟨o, q⟩) | ⟨o, its, n, h1, h2, _⟩
    · exact .base (.tup q)
    · exact .fTuple q
    · exact .kTuple h1 h2
  rcases p with p | ⟨a, vs, ds, rfl, rfl, h1, _⟩
  · cases p with
    | non => cases h; exact .base .non
    | bl b => cases h; exact .base (.bl b)
    | int i => cases h; exact .base (.int i)
    | str z => cases h; exact .base (.str z)
    | tup hs _ =>
      cases h
      exact .base (.tup (r.ex _ _ hs))
    | lst hs _ => cases h; exact ls (SqL.of (r.ex _ _ hs))
    | kl hs _ => cases h; exact ls (sqL_mono r.ex hs)
    | kt hs _ => cases h; exact tps (sqT_mono r.ex hs)
    | nod hs => cases h; exact .base (.dK (r.ex _ _ hs))
    | loc _ => cases h
    | ins _ _ => cases h
    | cla _ => cases h
  · cases h; exact ls (SqL.of h1)
def fIsi (T : String) (d : D) : Option D := (tyD d).map fun t => .bl (subT t T)
/-- of one of several types -/
def fIsiA (Ts : List String) (d : D) : Option D := (tyD d).map fun t => .bl (Ts.any (subT t))
section
variable {X : Cx} {W : WX} {e : Expr} {m : ME} {pos p q : Pos} {x : Str}
theorem pe_tyN {T : String} (hg : Gl X x) (hm : X.mg x = none) (hv : bootBuiltins x = some (.type T)) (hn : x ≠ "__name__" := by decide) (hdb : (x == ("__debug__" : Str)) = false := by decide) : PE X (.Name x pos) (tC (.ty T)) :=
  ⟨fun pins s σ H Q I h => ld_blt I hg hm hv ⟨.ty T, H, I, rfl, h⟩ hn hdb⟩
theorem je_isi {T : String} (hT : T ∈ tysR) (hg : Gl X "isinstance") (hm : X.mg "isinstance" = none) (hgT : Gl X x) (hmT : X.mg x = none) (hvT : bootBuiltins x = some (.type T)) (h : JB X W e m) (hn : x ≠ "__name__" := by decide) (hdb : (x == ("__debug__" : Str)) = false := by decide)
    (hs : starEach [e, .Name x q] X.env = (false, eval e X.env) :: starEach [.Name x q] X.env := by rfl) (hs2 : starEach [.Name x q] X.env = (false, eval (.Name x q) X.env) :: starEach [] X.env := by rfl) (h2 : (backTo pos (starEach [.Name x q] X.env)).any (·.1) = false := by rfl) :
    JE X W (.Call (.Name "isinstance" p) [e, .Name x q] [] pos) (mUn (fIsi T) m) := by
  refine PE.imp (pe_callB call_isi hg hm rfl (pa_cons h (pa_cons (pe_tyN hgT hmT hvT hn hdb) pa_nil hs2) hs) (by decide) (by decide) hs h2) fun σ H Q h => ?_
  obtain ⟨w, rfl, rfl, r, h⟩ := h
  refine run r h fun d s' G' v H' g r' p h' => ?_
  unfold fIsi at h'
  cases ht : tyD d with
  | none => rw [ht] at h'; exact h'.elim
  | some t =>
    rw [ht] at h'
    exact ⟨v, .ty T, .type t, .type T, _, rfl, .ty T, tyx_of r' p ht, kit_tb (tyD_in ht) hT, fin r' h' (.bl _)⟩
end
def pds (f : D → Option PyData) : List D → Option (List PyData)
  | [] => some []
  | d :: ds => match f d, pds f ds with
    | some p, some ps => some (p :: ps)
    | _, _ => none
/-- d as data, at most n deep -/
def pd : Nat → D → Option PyData
  | _, .non => some .none
  | _, .bl b => some (.bool b)
  | _, .int i => some (.int i)
  | _, .str x => some (.str x)
  | n + 1, .tup ds => (pds (pd n) ds).map .tuple
  | n + 1, .lst ds => (pds (pd n) ds).map .list
  | _, _ => none
theorem pds_cons {f : D → Option PyData} {d : D} {ds : List D} {ps : List PyData} (h : pds f (d :: ds) = some ps) : ∃ p qs, f d = some p ∧ pds f ds = some qs ∧ ps = p :: qs := by
  unfold pds at h
  cases h1 : f d with
  | none => rw [h1] at h; cases h
  | some p =>
    cases h2 : pds f ds with
    | none => rw [h1, h2] at h; cases h
    | some qs => rw [h1, h2] at h; cases h; exact ⟨p, qs, rfl, rfl, rfl⟩
theorem pd_all {n : Nat} (ih : ∀ d p, pd n d = some p → p.plain = true ∧ p.depth ≤ n) : ∀ {ds : List D} {ps : List PyData}, pds (pd n) ds = some ps → PyData.plainAll ps = true ∧ PyData.depthAll ps ≤ n
  | [], _, h => by cases h; exact ⟨by simp [PyData.plainAll], by simp [PyData.depthAll]⟩
  | d :: ds, _, h => by
    obtain ⟨p, qs, h1, h2, rfl⟩ := pds_cons h
    obtain ⟨a, b⟩ := pd_all ih h2
    obtain ⟨c, e⟩ := ih d p h1
    refine ⟨by simp [PyData.plainAll, a, c], ?_⟩
    simp only [PyData.depthAll]
    omega
theorem pd_ok : ∀ (n : Nat) (d : D) (p : PyData), pd n d = some p → p.plain = true ∧ p.depth ≤ n := by
  intro n
  induction n with
  | zero => intro d p h; cases d <;> simp [pd] at h <;> subst h <;> simp [PyData.plain, PyData.depth]
  | succ n ih =>
    intro d p h
    cases d <;> simp [pd] at h <;> first | (subst h; simp [PyData.plain, PyData.depth]; done) | skip
    · obtain ⟨ps, h1, rfl⟩ := h
      obtain ⟨a, b⟩ := pd_all ih h1
      exact ⟨by simpa [PyData.plain] using a, by simp only [PyData.depth]; omega⟩
    · obtain ⟨ps, h1, rfl⟩ := h
      obtain ⟨a, b⟩ := pd_all ih h1
      exact ⟨by simpa [PyData.plain] using a, by simp only [PyData.depth]; omega⟩
theorem pds_dp {K : PySem.W.Frag} {G : Gh} {H : Hp} {f : D → Option PyData} (ih : ∀ v d p, f d = some p → Rep K G v d → Dp K H v p) : ∀ {ds : List D} {ps : List PyData} {vs : List V}, pds f ds = some ps → Reps K G vs ds → DpAll K H vs ps
  | [], _, _, h, r => by cases h; cases r; exact .nil
  | d :: ds, _, _, h, r => by
    obtain ⟨p, qs, h1, h2, rfl⟩ := pds_cons h
    cases r with
    | cons a b => exact .cons (ih _ _ _ h1 a) (pds_dp ih h2 b)
theorem pd_dp {K : PySem.W.Frag} {pn : List (Addr × Obj)} {w : Wd} (r : Rel K pn w) : ∀ (n : Nat) (v : V) (d : D) (p : PyData), pd n d = some p → Rep K w.G v d → Dp K w.H v p := by
  intro n
  induction n with
  | zero =>
    intro v d p h q
    cases q <;> simp [pd] at h <;> subst h
    · exact .non
    · exact .bl _
    · exact .int _
    · exact .str _
  | succ n ih =>
    intro v d p h q
    cases q with
    | non => simp [pd] at h; subst h; exact .non
    | bl b => simp [pd] at h; subst h; exact .bl _
    | int i => simp [pd] at h; subst h; exact .int _
    | str x => simp [pd] at h; subst h; exact .str _
    | tup hs rs =>
      simp [pd] at h
      obtain ⟨ps, h1, rfl⟩ := h
      exact .tup (tqT r.ex hs) (pds_dp ih h1 rs)
    | lst hs rs =>
      simp [pd] at h
      obtain ⟨ps, h1, rfl⟩ := h
      exact .lst (SqL.of (r.ex _ _ hs)) (pds_dp ih h1 rs)
    | kl hs rs => simp [pd] at h
    | kt hs rs => simp [pd] at h
    | nod hs => simp [pd] at h
    | loc hs => simp [pd] at h
    | ins hs rs => simp [pd] at h
    | cla c => simp [pd] at h
theorem deqs_pd {n : Nat} (ih : ∀ d e p q, pd n d = some p → pd n e = some q → deq n d e = some (PyData.eqv p q)) : ∀ {ds es : List D} {ps qs : List PyData}, pds (pd n) ds = some ps → pds (pd n) es = some qs → deqs (deq n) ds es = some (PyData.eqvAll ps qs)
  | [], [], _, _, h1, h2 => by cases h1; cases h2; simp [deqs, PyData.eqvAll]
  | [], e :: es, _, _, h1, h2 => by obtain ⟨q, qs, _, _, rfl⟩ := pds_cons h2; cases h1; simp [deqs, PyData.eqvAll]
  | d :: ds, [], _, _, h1, h2 => by obtain ⟨q, qs, _, _, rfl⟩ := pds_cons h1; cases h2; simp [deqs, PyData.eqvAll]
  | d :: ds, e :: es, _, _, h1, h2 => by
    obtain ⟨p, ps, a1, a2, rfl⟩ := pds_cons h1
    obtain ⟨q, qs, b1, b2, rfl⟩ := pds_cons h2
    simp only [deqs, ih d e p q a1 b1, deqs_pd ih a2 b2, PyData.eqvAll]
theorem deq_pd : ∀ (n : Nat) (d e : D) (p q : PyData), pd n d = some p → pd n e = some q → deq n d e = some (PyData.eqv p q) := by
  intro n
  induction n with
  | zero =>
    intro d e p q h1 h2
    cases d <;> simp [pd] at h1 <;> subst h1 <;> cases e <;> simp [pd] at h2 <;> subst h2 <;> simp [deq, sc, PyData.eqv]
  | succ n ih =>
    intro d e p q h1 h2
    cases d <;> simp [pd] at h1 <;> first | (obtain ⟨ps, h1, rfl⟩ := h1) | subst h1
    all_goals (cases e <;> simp [pd] at h2 <;> first | (obtain ⟨qs, h2, rfl⟩ := h2) | subst h2)
    all_goals first | (simp [deq, sc, PyData.eqv]; done) | (simp only [deq, PyData.eqv]; exact deqs_pd ih h1 h2)
/-- x != y of data without dicts -/
def fNe (d e : D) : Option D := if (pd 50 d).isSome = true ∧ (pd 50 e).isSome = true then (deq 50 d e).map fun b => .bl (!b) else none
def rNeX (K : PySem.W.Frag) : R2 := fun x y H Q => ∃ p q, Dp K H x p ∧ Dp K H y q ∧ p.plain = true ∧ q.plain = true ∧ p.depth ≤ 50 ∧ Q (.bl (!PyData.eqv p q)) H
theorem op_neX {X : Cx} (hu : X.A.units + 64 < cLine) : OpR X (compareOp .NotEq) (rNeX X.K) := by
  intro pins s σ H x y v u Q I rx ry h
  obtain ⟨d, e, hd, he, sd, se, dd, q⟩ := h
  obtain ⟨as, r1⟩ := Dp.reads I d x v hd rx
  obtain ⟨bs, r2⟩ := Dp.reads I e y u he ry
  exact SeqAt.ne_plain r1 r2 sd se (by omega) ⟨.bl _, H, I, rfl, q⟩
theorem k_ne {K : PySem.W.Frag} : R2Ok K (rNeX K) fNe := by
  intro pn w x y d e z Q r p1 p2 hz k
  unfold fNe at hz
  split at hz
  · rename_i hh
    obtain ⟨p, hp⟩ := Option.isSome_iff_exists.mp hh.1
    obtain ⟨q, hq⟩ := Option.isSome_iff_exists.mp hh.2
    rw [deq_pd 50 d e p q hp hq] at hz
    cases hz
    obtain ⟨a1, a2⟩ := pd_ok 50 d p hp
    obtain ⟨b1, b2⟩ := pd_ok 50 e q hq
    exact ⟨p, q, pd_dp r 50 x d p hp p1, pd_dp r 50 y e q hq p2, a1, b1, a2, k _ _ _ (.refl _) r (.bl _)⟩
  · cases hz
/-- what is stored in a slot: a value, or a new list -/
def mPar (i j : Nat) (m : MA) : MS := bnd m fun ds s => match ds with
  | [d, e] => .ok .nx ((s.put i (.imm d)).put j (.imm e))
  | _ => .stuck
section
variable {X : Cx} {W : WX} {a b : Expr} {m : MA} {pos : Pos}
theorem js_par {i j : Nat} {x y : Str} {px py pt : Pos} {kt k2 pt2} (hc : X.calm = true) (hN : X.N.Nodup) (hi : X.N[i]? = some x) (hj : X.N[j]? = some y) (hij : i ≠ j)
    (hx : X.env.scope.names.lookup x = some .local) (hy : X.env.scope.names.lookup y = some .local) (ha : JA X W [a, b] m)
    (hw : swappedStores [.Tuple [.Name x px, .Name y py] kt pt] (.Tuple [a, b] k2 pt2) X.env = pure (some [x, y]))
    (hs : swapsWithSole [.Tuple [.Name x px, .Name y py] kt pt] (.Tuple [a, b] k2 pt2) pos.line X.env = pure false := by rfl) :
    JS X W (.Assign [.Tuple [.Name x px, .Name y py] kt pt] (.Tuple [a, b] k2 pt2) pos) (mPar i j m) := by
  refine PS.imp (ps_par hc hN hi hj hij hx hy ha.pa hw hs) fun D σ H h => ?_
  obtain ⟨w, rfl, rfl, r, h⟩ := h
  refine runS r h fun ds s' G' vs H' g r' p h' => ?_
  split at h'
  · cases p with
    | cons p1 p2 =>
      cases p2 with
      | cons p2 p3 =>
        cases p3
        exact ⟨_, _, rfl, h' G' _ H' (.refl _) (Rel.set (w := { w with G := G', σ := w.σ.set i (some _), H := H', s := s'.put i (.imm _) }) (r'.set p1) p2)⟩
  · exact h'.elim
/-- a, b = [..], [..]: both new lists -/
def mParFF (i j : Nat) (m m2 : MA) : MS := bnd m fun ds s => match m2 s with
  | .ok es s' => .ok .nx ((s'.put i (.own ds)).put j (.own es))
  | _ => .stuck
/-- names from a list or a tuple -/
def gTL (n : Nat) (gs : MGs) : MG
  | .tup ds => if ds.length = n then gs ds else none
  | .lst ds => if ds.length = n then gs ds else none
  | _ => none
theorem PG.or {e : Expr} {t t' : TG} (h : PG X e t) (h' : PG X e t') : PG X e (fun v σ H Q => t v σ H Q ∨ t' v σ H Q) := ⟨fun pins s σ H v u Q I r q => q.elim (h.run pins s σ H v u Q I r) (h'.run pins s σ H v u Q I r)⟩
theorem jg_tl {es : List Expr} {k : Nat} {gs : MGs} {ix : List Nat} {n : Nat} (hc : X.calm = true) (h : JGs X es gs ix) (hn : (assignEach es X.env).length = n := by rfl) (hst : (assignEach es X.env).findIdx? (·.1) = none := by rfl) : JG X (.Tuple es k pos) (gTL n gs) ix := by
  refine ⟨PG.imp (PG.or (pg_tup hc h.pg hn hst) (pg_unl hc h.pg hn hst)) fun v σ H Q h => ?_, fun d l e p hp => ?_⟩
  · obtain ⟨pn, w, d, l, rfl, r, p, e, q⟩ := h
    unfold gTL at e
    split at e
    · rename_i ds
      cases p with
      | tup hs rs =>
        split at e
        · rename_i hl
          exact .inl ⟨_, _, rfl, tqT r.ex hs, rs.length.trans hl, pn, w, ds, l, rfl, r, rs, e, q⟩
        · cases e
    · rename_i ds
      cases p with
      | lst hs rs =>
        split at e
        · rename_i hl
          exact .inr ⟨_, _, rfl, SqL.of (r.ex _ _ hs), rs.length.trans hl, pn, w, ds, l, rfl, r, rs, e, q⟩
        · cases e
    · cases e
  · unfold gTL at e
    split at e
    · split at e
      · exact h.ix _ _ e p hp
      · cases e
    · split at e
      · exact h.ix _ _ e p hp
      · cases e
    · cases e
end
end DL
namespace DL
open PySem PySem.Spec L2
section
variable {K : PySem.W.Frag} {pn : List (Addr × Obj)} {w : Wd}
/-- a thing that nobody holds becomes a cell -/
theorem Rel.mkCell (r : Rel K pn w) {p : Addr} {o : Ob} {u : HO} {l : List (Addr × HO)} (hF : w.G.F p = none) (na : p ∉ w.G.ad) (h0 : w.H0 p = none) (hs : ∀ (i : Nat) es, w.s.sl[i]? = some (.own es) → w.σ[i]? ≠ some (some (.ref p))) (hl : ∀ q ∈ l, q ∈ w.pr ∧ q.1 ≠ p)
    (ho : ∀ G' H', w.G.le G' → H' p = some u → ObRel K G' H' p o) :
    w.G.le { w.G with ad := w.G.ad ++ [p] } ∧ Rel K pn { w with G := { w.G with ad := w.G.ad ++ [p] }, H := upd w.H p u, s := { w.s with st := w.s.st ++ [o] }, pr := l } ∧ Rep K { w.G with ad := w.G.ad ++ [p] } (.ref p) (.loc w.s.st.length) := by
  have g : w.G.le { w.G with ad := w.G.ad ++ [p] } := ⟨fun _ _ h => h, fun n a h => (List.getElem?_append_left (List.getElem?_eq_some_iff.mp h).1).trans h⟩
  have up : ∀ a x, a ≠ p → w.H a = some x → upd w.H p u a = some x := fun a x n h => (upd_ne n).trans h
  have tb' := r.tb.step (H' := upd w.H p u) g (fun P ps z f a2 h => by
    have ne : P ≠ p := fun e => z (e ▸ h0)
    exact ⟨f, (fun hm => by
      rcases List.mem_append.mp hm with e | e
      · exact a2 e
      · exact ne (List.mem_singleton.mp e)), up P _ ne h⟩)
  refine ⟨g, ⟨fun a x h => up a x (fun e => by rw [e] at h; exact absurd (hF.symm.trans h) (by simp)) (r.ex a x h), ⟨r.le.g.trans g, fun a h => ?_, r.le.fz, fun a x h n t => up a x (fun e => by rw [e] at h; exact absurd (h0.symm.trans h) (by simp)) (r.le.kp a x h n t), fun a x h => ?_, fun a ps h => let ⟨qs, h'⟩ := r.le.tt a ps h; ⟨qs, up a _ (fun e => by rw [e] at h; exact absurd (h0.symm.trans h) (by simp)) h'⟩⟩, ⟨?_, fun n a x h1 h2 => ?_, fun a h => ?_, ?_⟩, ⟨r.sl.len, fun i d h => ?_, fun i ds h => ?_, r.sl.dis, fun i x h => ?_⟩, fun q hq => ?_, tb'⟩, ?_⟩
  · rcases List.mem_append.mp h with z | z
    · exact r.le.nw a z
    · rw [List.mem_singleton.mp z]; exact .inr h0
  · obtain ⟨x', h'⟩ := r.le.dm a x h
    by_cases e : a = p
    · exact ⟨u, by rw [e]; exact upd_same⟩
    · exact ⟨x', up a x' e h'⟩
  · show (w.G.ad ++ [p]).length = (w.s.st ++ [o]).length
    rw [List.length_append, List.length_append, r.st.len]; rfl
  · have h1 : (w.G.ad ++ [p])[n]? = some a := h1
    have h2 : (w.s.st ++ [o])[n]? = some x := h2
    by_cases hn : n < w.G.ad.length
    · rw [List.getElem?_append_left hn] at h1
      rw [List.getElem?_append_left (by rw [← r.st.len]; exact hn)] at h2
      have ne : a ≠ p := fun e => na (e ▸ List.mem_of_getElem? h1)
      exact (r.st.at_ n a x h1 h2).mono g (fun y => up a y ne)
    · rw [List.getElem?_append_right (by omega)] at h1
      rw [List.getElem?_append_right (by rw [← r.st.len]; omega), ← r.st.len] at h2
      have e : n - w.G.ad.length = 0 := by
        have := (List.getElem?_eq_some_iff.mp h1).1
        simp at this; omega
      rw [e] at h1 h2
      simp at h1 h2
      subst h1 h2
      exact ho _ _ g upd_same
  · rcases List.mem_append.mp h with z | z
    · exact r.st.nof a z
    · rw [List.mem_singleton.mp z]; exact .inl hF
  · show (w.G.ad ++ [p]).Nodup
    rw [List.nodup_append]
    exact ⟨r.st.nd, by simp, fun a ha b hb e => by rw [List.mem_singleton.mp hb] at e; exact na (e ▸ ha)⟩
  · obtain ⟨v, h1, h2⟩ := r.sl.imm i d h
    exact ⟨v, h1, h2.mono g⟩
  · obtain ⟨a, vs, h1, h2, h3, h4, h5, h6⟩ := r.sl.own i ds h
    have ne : a ≠ p := fun e => hs i ds h (e ▸ h1)
    refine ⟨a, vs, h1, up a _ ne h2, h3.mono g, h4, fun m => ?_, h6⟩
    rcases List.mem_append.mp m with z | z
    · exact h5 z
    · exact ne (List.mem_singleton.mp z)
  · obtain ⟨a, oe, tl, cls, d, h1, h2, h3, h4⟩ := r.sl.xn i x h
    exact ⟨a, oe, tl, cls, d, h1, h2, h3, h4.mono g⟩
  · obtain ⟨hq1, hq2⟩ := hl q hq
    obtain ⟨p1, p2, p3, p4⟩ := r.pr q hq1
    refine ⟨up _ _ hq2 p1, p2, ⟨fun m => ?_, p3.2⟩, p4⟩
    rcases List.mem_append.mp m with z | z
    · exact p3.1 z
    · exact hq2 (List.mem_singleton.mp z)
  · refine .loc ?_
    show (w.G.ad ++ [p])[w.s.st.length]? = some p
    rw [← r.st.len]
    simp
end
def valD {κ : Type} [DecidableEq κ] (kvs : List (κ × D)) (k : κ) : Option D := (kvs.find? fun kv => decide (kv.1 = k)).map (·.2)
def putD {κ : Type} [DecidableEq κ] (kvs : List (κ × D)) (k : κ) (d : D) : List (κ × D) := if (kvs.any fun kv => decide (kv.1 = k)) then kvs.map fun kv => if kv.1 = k then (kv.1, d) else kv else kvs ++ [(k, d)]
theorem kv_val {κ : Type} [DecidableEq κ] {K : PySem.W.Frag} {G : Gh} {k : κ} {d : D} : ∀ {vs : List (κ × V)} {kvs : List (κ × D)}, KvRel K G vs kvs → valD kvs k = some d → ∃ v, valV vs k = some v ∧ Rep K G v d
  | _, _, .nil, h => by cases h
  | _, _, .cons (a := p) (b := q) e r, h => by
    unfold valD at h
    unfold valV
    rw [List.find?_cons] at h ⊢
    rw [e.1]
    by_cases c : q.1 = k
    · simp only [c, decide_true] at h ⊢
      cases h
      exact ⟨_, rfl, e.2⟩
    · simp only [c, decide_false] at h ⊢
      exact kv_val r h
end DL
namespace DL
open PySem PySem.Spec L2
theorem kv_any {κ : Type} [DecidableEq κ] {K : PySem.W.Frag} {G : Gh} {k : κ} : ∀ {vs : List (κ × V)} {kvs : List (κ × D)}, KvRel K G vs kvs → (vs.any fun kv => decide (kv.1 = k)) = kvs.any fun kv => decide (kv.1 = k)
  | _, _, .nil => rfl
  | _, _, .cons (a := p) (b := q) e r => by
    rw [List.any_cons, List.any_cons, e.1, kv_any r]
theorem kv_map {κ : Type} [DecidableEq κ] {K : PySem.W.Frag} {G : Gh} {k : κ} {v : V} {d : D} (p : Rep K G v d) : ∀ {vs : List (κ × V)} {kvs : List (κ × D)}, KvRel K G vs kvs → KvRel K G (vs.map fun kv => if kv.1 = k then (kv.1, v) else kv) (kvs.map fun kv => if kv.1 = k then (kv.1, d) else kv)
  | _, _, .nil => .nil
  | _, _, .cons (a := p1) (b := q1) e r => by
    refine .cons ?_ (kv_map p r)
    by_cases c : q1.1 = k
    · have c' : p1.1 = k := e.1.trans c
      simp only [if_pos c, if_pos c']
      exact ⟨e.1, p⟩
    · have c' : ¬ p1.1 = k := fun z => c (e.1.symm.trans z)
      simp only [if_neg c, if_neg c']
      exact e
theorem kv_put {κ : Type} [DecidableEq κ] {K : PySem.W.Frag} {G : Gh} {k : κ} {v : V} {d : D} {vs : List (κ × V)} {kvs : List (κ × D)} (r : KvRel K G vs kvs) (p : Rep K G v d) : KvRel K G (putK vs k v) (putD kvs k d) := by
  unfold putK putD
  rw [kv_any r]
  split
  · exact kv_map p r
  · exact paired_append r (.cons ⟨rfl, p⟩ .nil)
theorem kv_len {κ : Type} {K : PySem.W.Frag} {G : Gh} : ∀ {vs : List (κ × V)} {kvs : List (κ × D)}, KvRel K G vs kvs → vs.length = kvs.length
  | _, _, .nil => rfl
  | _, _, .cons e r => by rw [List.length_cons, List.length_cons, kv_len r]
/-- d[k], d a cell -/
def mGet (m : ME) (k : Key) : ME := bnd m fun d s => match d with
  | .loc n => (match s.st[n]? with
    | some (.dct kvs) => (match valD kvs k with
      | some z => .ok z s
      | none => .stuck)
    | _ => .stuck)
  | _ => .stuck
/-- d[k] = v -/
def mPut (m : ME) (k : Key) (mv : ME) : MS := bnd mv fun z => bnd m fun d s => match d with
  | .loc n => (match s.st[n]? with
    | some (.dct kvs) => if kvs.length < 1000 then .ok .nx { s with st := s.st.set n (.dct (putD kvs k z)) } else .stuck
    | _ => .stuck)
  | _ => .stuck
section
variable {X : Cx} {W : WX} {o i v : Expr} {m mv : ME} {pos pos' : Pos} {k : Key}
theorem je_get (hu : X.A.units + 1 < cLine) (ho : JE X W o m) (hi : PE X i (tC (kV k))) (hs : NoSl i := by exact fun _ _ => rfl) : JE X W (.Subscript o i pos) (mGet m k) := by
  refine PE.imp (pe_dget hu ho hi hs) fun σ H Q h => ?_
  obtain ⟨w, rfl, rfl, r, h⟩ := h
  refine run r h fun d s' G' y H' g r' p h' => ?_
  split at h'
  · rename_i n
    split at h'
    · rename_i kvs hn
      split at h'
      · rename_i z hz
        cases p with
        | loc ha =>
          obtain ⟨vs, e1, e2⟩ := r'.st.at_ n _ _ ha hn
          obtain ⟨u, f1, f2⟩ := kv_val e2 hz
          refine ⟨_, u, rfl, ?_, h' _ _ _ (.refl _) r' f2⟩
          have := DGet.k (k := k) e1
          rw [f1] at this
          exact this
      · exact h'.elim
    · exact h'.elim
  · exact h'.elim
theorem js_put (hu : X.A.units + 1 < cLine) (ho : JE X W o m) (hi : PE X i (tC (kV k))) (hv : JE X W v mv) (hs : swapsWith v (some (.Subscript o i pos')) pos.line X.env = pure false := by rfl) : JS X W (.Assign [.Subscript o i pos'] v pos) (mPut m k mv) := by
  refine PS.imp (ps_dput hu ho hi hv hs) fun D σ H h => ?_
  obtain ⟨w, rfl, rfl, r, h⟩ := h
  refine runS r h fun z s1 G1 y1 H1 g1 r1 p1 h1 => ?_
  refine runS r1 h1 fun d s' G' y H' g r' p h' => ?_
  split at h'
  · rename_i n
    split at h'
    · rename_i kvs hn
      split at h'
      · rename_i hl
        cases p with
        | loc ha =>
          obtain ⟨vs, e1, e2⟩ := r'.st.at_ n _ _ ha hn
          refine ⟨_, _, rfl, DPut.k e1 (by rw [kv_len e2, sizeLine_eq]; omega), ?_⟩
          exact h' _ _ _ (.refl _) (r'.cell ha (fun H2 hH => ⟨_, hH, kv_put e2 (p1.mono g)⟩) fun φ z => nomatch e1.symm.trans z)
      · exact h'.elim
    · exact h'.elim
  · exact h'.elim
end
def mVals : List (Key × ME) → MA
  | [] => ret []
  | (_, m) :: r => bnd m fun d => bnd (mVals r) fun ds => ret (d :: ds)
def mDict (ms : List (Key × ME)) : ME := bnd (mVals ms) fun ds s => .ok (.loc s.st.length) { s with st := s.st ++ [.dct ((ms.map (·.1)).zip ds)] }
def AK (K : PySem.W.Frag) (ks : List Key) : Wd → List (V × V) → List D → Prop := fun w ps ds => ∃ vs : List V, ps = (ks.zip vs).map (fun kv => (kV kv.1, kv.2)) ∧ ks.length = vs.length ∧ Reps K w.G vs ds
theorem vals_run {K : PySem.W.Frag} {pn : List (Addr × Obj)} {W : WX} : ∀ (ms : List (Key × ME)) (w : Wd) (Q : List (V × V) → Hp → Prop), Rel K pn w → okG K pn W (AK K (ms.map (·.1))) w Q (mVals ms w.s) → tPairs (ms.map fun p => (tC (kV p.1), tG K pn W (AR K) p.2)) w.σ w.H Q
  | [], w, Q, r, h => h w.G [] w.H (.refl _) r ⟨[], rfl, rfl, .nil⟩
  | (k, m) :: rest, w, Q, r, h => by
    show tG K pn W (AR K) m w.σ w.H fun y H2 => tPairs (rest.map fun p => (tC (kV p.1), tG K pn W (AR K) p.2)) w.σ H2 fun ps H3 => Q ((kV k, y) :: ps) H3
    refine run r h fun d s' G' v H' g r' p h' => ?_
    refine vals_run rest { w with G := G', H := H', s := s' } _ r' ?_
    have h' : okG K pn W (AK K (((k, m) :: rest).map (·.1))) { w with G := G', H := H', s := s' } Q (bnd (mVals rest) (fun ds => ret (d :: ds)) s') := h'
    unfold bnd at h'
    show okG K pn W _ _ _ (mVals rest s')
    cases hm : mVals rest s' with
    | ok ds s2 =>
      rw [hm] at h'
      intro G2 ps H2 g2 r2 ha
      obtain ⟨vs, e1, e2, e3⟩ := ha
      refine h' G2 _ H2 g2 r2 ⟨v :: vs, ?_, ?_, .cons (p.mono g2) e3⟩
      · rw [e1]; rfl
      · simpa using e2
    | exc y s2 => rw [hm] at h'; exact h'
    | stuck => rw [hm] at h'; exact h'
theorem merge_nodup : ∀ (kvs acc : List (Key × V)), ((acc ++ kvs).map (·.1)).Nodup → mergeK acc kvs = acc ++ kvs
  | [], acc, _ => by rw [List.append_nil]; rfl
  | p :: r, acc, h => by
    have e : putK acc p.1 p.2 = acc ++ [(p.1, p.2)] := by
      unfold putK
      rw [if_neg]
      intro z
      rw [List.any_eq_true] at z
      obtain ⟨q, hq, hz⟩ := z
      have hz := of_decide_eq_true hz
      rw [List.map_append, List.nodup_append] at h
      exact h.2.2 q.1 (List.mem_map_of_mem hq) p.1 (by simp) hz
    show mergeK (putK acc p.1 p.2) r = _
    rw [e, merge_nodup r (acc ++ [(p.1, p.2)]) (by simpa using h)]
    simp
theorem kv_zip {K : PySem.W.Frag} {G : Gh} : ∀ (ks : List Key) {vs : List V} {ds : List D}, Reps K G vs ds → KvRel K G (ks.zip vs) (ks.zip ds)
  | [], _, _, _ => .nil
  | k :: ks, _, _, .nil => .nil
  | k :: ks, _, _, .cons p r => .cons ⟨rfl, p⟩ (kv_zip ks r)
section
variable {X : Cx} {W : WX} {pos : Pos} {keys : List (Option Expr)} {values : List Expr} {ms : List (Key × ME)}
def JP (X : Cx) (W : WX) (pos : Pos) (keys : List (Option Expr)) (values : List Expr) (ms : List (Key × ME)) : Prop := PPs X pos keys values (ms.map fun p => (tC (kV p.1), tG X.K X.pn W (AR X.K) p.2))
theorem jp_nil : JP X W pos [] [] [] := pps_nil
theorem jp_cons {k v : Expr} {ke : Key} {m : ME} (hk : PE X k (tC (kV ke))) (hv : JE X W v m) (hr : JP X W pos keys values ms) : JP X W pos (some k :: keys) (v :: values) ((ke, m) :: ms) := pps_cons hk hv hr
theorem je_dict (h : JP X W pos keys values ms) (hn : (ms.map (·.1)).Nodup) (hall : keys.all (·.isSome) = true := by rfl) (hl : keys.length = values.length := by rfl) (h0 : keys ≠ [] := by decide) (h15 : keys.length ≤ 15 := by decide) (hm : ms.length ≤ 15 := by decide) : JE X W (.Dict keys values pos) (mDict ms) := by
  refine PE.imp (pe_disp h hall hl h0 h15) fun σ H Q h => ?_
  obtain ⟨w, rfl, rfl, r, h⟩ := h
  intro p hp
  have r1 := r.prPush (o := .dK []) hp
  refine vals_run ms { w with H := upd w.H p (.dK []), pr := (p, .dK []) :: w.pr } _ r1 ?_
  have h : okG X.K X.pn W (AR X.K) w Q (bnd (mVals ms) (fun ds s => .ok (.loc s.st.length) { s with st := s.st ++ [.dct ((ms.map (·.1)).zip ds)] }) w.s) := h
  unfold bnd at h
  show okG X.K X.pn W _ _ _ (mVals ms w.s)
  have np := r.noP hp
  cases hm2 : mVals ms w.s with
  | stuck => rw [hm2] at h; exact h
  | exc y s2 =>
    rw [hm2] at h
    intro G' c d H' g r' hx
    refine h G' c d H' g ?_ hx
    exact ⟨r'.ex, r'.le, r'.st, r'.sl, fun q hq => r'.pr q (List.mem_cons_of_mem _ hq), r'.tb⟩
  | ok ds s2 =>
    rw [hm2] at h
    intro G' ps H' g r' ha
    obtain ⟨vs, e1, e2, e3⟩ := ha
    obtain ⟨p1, p2, p3, p4, p5⟩ := r'.pr (p, .dK []) List.mem_cons_self
    refine ⟨p1, (ms.map (·.1)).zip vs, e1, ?_, ?_⟩
    · rw [List.length_zip, ← e2, Nat.min_self, List.length_map]; exact hm
    · have em : mergeK [] ((ms.map (·.1)).zip vs) = (ms.map (·.1)).zip vs := by
        rw [merge_nodup]
        · rfl
        · rw [List.nil_append, List.map_fst_zip (by omega)]; exact hn
      rw [em]
      obtain ⟨g2, r2, q2⟩ := Rel.mkCell (w := { w with G := G', H := H', s := s2, pr := (p, .dK []) :: w.pr }) (o := .dct ((ms.map (·.1)).zip ds)) (u := .dK ((ms.map (·.1)).zip vs)) (l := w.pr) r' p2 p3.1 p4 p5 (fun q hq => ⟨List.mem_cons_of_mem _ hq, np q hq⟩) (fun G2 H2 g2 hH => ⟨_, hH, kv_zip _ (e3.mono g2)⟩)
      exact h _ _ _ (g.trans g2) r2 q2
end
end DL
namespace DL
open PySem PySem.Spec PyProof.Rows L2
abbrev enO (p : Addr) : Obj := { cls := .type "enumerate", data := .fields #[.none, .bool false, .ref p, rawInt 0, .none, .none] }
abbrev tiO (t : Addr) : Obj := { cls := .type "tuple_iterator", data := .fields #[.ref t, .int 0 0] }
theorem en_new (t : Addr) (items : Array Value) :
    Meets (Builtin.«enumerate.__new__» ⟨[.type "enumerate", .ref t], []⟩) (fun _ R s => s.heap.IsTuple t items ∧ R (.ok (.ret (.ref (s.heap.push (tiO t)).objs.size))) { s with heap := (s.heap.push (tiO t)).push (enO s.heap.objs.size) }) :=
  .of_wp fun prog w A R s h => by
    obtain ⟨hp, gl, dr, tk, os⟩ := s
    obtain ⟨ht, hR⟩ := h
    have hsub := sub_enumerate
    have go : ∀ {A2 : Around} {E2 : Value → Shared → Prop} {Q2 : Value → Shared → Prop}, Q2 (.ref hp.objs.size) ⟨hp.push (tiO t), gl, dr, tk, os⟩ → wpAny (model prog w) A2 (pyIter (.ref t)) Q2 E2 ⟨hp, gl, dr, tk, os⟩ := fun q => (begins_tuple t items).iter prog w _ _ ⟨hp, gl, dr, tk, os⟩ _ ht q
    obtain ⟨ot, h1, h2, n1, h3⟩ := id ht
    obtain ⟨oc, od, odt, osl⟩ := ot
    simp only at h2 h3
    subst h2 h3
    wp_walk using AutoSeq1.wpAny_loadPart' h1
    refine wpAny_stack_any fun stk => wpAny_pure ?_
    split
    · rename_i cc _ _ _ _ _
      cases (cc == Value.type "enumerate")
      all_goals
        wp_walk using AutoSeq1.wpAny_loadPart' h1, go
        exact ⟨_, rfl, hR⟩
    · wp_walk using AutoSeq1.wpAny_loadPart' h1, go
      exact ⟨_, rfl, hR⟩
section
variable {prog : Program} {w : World} {A : Around} {E : Value → Shared → Prop} {s : Shared}
theorem en_call {t : Addr} {items : Array Value} {Q : Value → Shared → Prop} (ht : s.heap.IsTuple t items)
    (h : ∀ h', IsEnum h' (s.heap.objs.size + 1) s.heap.objs.size 0 .none → h'.IsTupleIter s.heap.objs.size t 0 → (∀ b o, s.heap.get? b = some o → h'.get? b = some o) → Q (.ref (s.heap.objs.size + 1)) { s with heap := h' }) :
    wpAny (model prog w) A (call (.type "enumerate") [.ref t]) Q E s := by
  refine callType_new F.called_enumerate (by decide) (F.typeCall_enumerate_1 _) (F.newCall_enumerate_1 _) (fun ob => F.args_object_init_2 ob _) F.entry_enumerate_new (en_new t items) ⟨ht, ?_⟩
  have hz : (s.heap.push (tiO t)).objs.size = s.heap.objs.size + 1 := Heap.size_push ..
  show _ ∧ _
  rw [hz]
  have he : IsEnum ((s.heap.push (tiO t)).push (enO s.heap.objs.size)) (s.heap.objs.size + 1) s.heap.objs.size 0 .none := by
    have q := Heap.get?_push_size (s.heap.push (tiO t)) (o := enO s.heap.objs.size) rfl
    rw [hz] at q; exact q
  exact ⟨⟨_, he, rfl⟩, h _ he ⟨_, Heap.get?_push_of_some _ (Heap.get?_push_size _ rfl), rfl, rfl⟩ fun b o x => Heap.get?_push_of_some _ (Heap.get?_push_of_some _ x)⟩
theorem en_end {e it t : Addr} {i : Nat} {items : Array Value} {c : Int} {old : Value} {Q : Option Value → Shared → Prop} (hh : A.handled = none) (he : IsEnum s.heap e it c old) (hit : s.heap.IsTupleIter it t i) (ht : s.heap.IsTuple t items) (hx : items[i]? = none)
    (hQ : ∀ h', Heap.ExtBut it s.heap h' → Q none { s with heap := h' }) : wpAny (model prog w) A (pyNext (.ref e)) Q E s := by
  have hT : s.TypeIs (.ref e) "enumerate" := ⟨_, he, rfl⟩
  unfold pyNext
  refine wpAny_bind (wpAny_attempt (wpAny_callSpecial?_slot (name := Str.ofString "__next__") hT F.slot_enumerate_next (wpAny_call_entry F.slot_enumerate_next hT F.entry_enumerate_next ?_ (F.args_enumerate_next_1 _))))
  show wpAny _ _ (field (.ref e) 2 >>= _) _ _ _
  refine wpAny_bind (wpAny_field he rfl (x := .ref it) rfl (wpAny_bind (wpAny_nextOf_tuple_end hh hit ht hx fun h2 x he2 hx2 => ?_)))
  obtain ⟨o, ho, hc⟩ := hx2
  exact wpAny_bind (wpAny_isInstance (T := "StopIteration") (b := true) ⟨o, ho, hc⟩ isSubtype_stop (wpAny_pure (hQ _ he2)))
end
/-- the tuple's items, each in a new pair with its number -/
def Itu (K : PySem.W.Frag) (a : Addr) : It :=
  ⟨fun i H => ∃ (xs : List V) (x : V), SqT K H a xs ∧ xs[i]? = some x, fun i H v H' => ∃ T x, v = .ref T ∧ H T = none ∧ H' = upd H T (.tup [.int (i : Nat), x]) ∧ ∀ xs, SqT K H a xs → xs[i]? = some x, fun i H => ∃ xs : List V, SqT K H a xs ∧ xs.length ≤ i⟩
theorem turn_enT {P : Program} {w : World} {K : PySem.W.Frag} {elts : List Expr} {kk : Nat} {tpos : Pos} (a e it : Addr) (ha1 : a ≠ e) (ha2 : a ≠ it) :
    Turn P w K (.Tuple elts kk tpos) (Itu K a) [e, it] e (fun i h => (∃ old, IsEnum h e it ((i : Nat) : Int) old) ∧ h.IsTupleIter it a i ∧ e ≠ it) where
  mem := by simp
  obj := fun i h st b hb => by
    obtain ⟨⟨old, he⟩, ⟨o, ho, hc, hd⟩, _⟩ := st
    rcases (by simpa using hb : b = e ∨ b = it) with z | z
    · rw [z]; exact ⟨_, he, fun v q => nomatch q⟩
    · rw [z]; exact ⟨o, ho, fun v q => by rw [hd] at q; cases q⟩
  keep := fun i h h' st k => let ⟨⟨old, he⟩, hi, hne⟩ := st; ⟨⟨old, k e (by simp) _ he⟩, hi.at fun o q => k it (by simp) o q, hne⟩
  item := by
    intro X hP hw hK hc i pins s σ H E I hf st hg
    subst hP hw hK
    obtain ⟨⟨old, he⟩, hit, hne⟩ := st
    obtain ⟨xs, x, hq, hx⟩ := hg
    obtain ⟨its, rv, p, hz⟩ := I.tuple hq
    obtain ⟨u, hu, ru⟩ := rv.get hx
    have hel : e < s.heap.objs.size := Heap.lt_size he
    have hil : it < s.heap.objs.size := by obtain ⟨_, q, _⟩ := hit; exact Heap.lt_size q
    have p : s.heap.IsTuple a its.toArray := p
    have hlt : i < its.toArray.size := by
      have := (List.getElem?_eq_some_iff.mp hu).1
      simpa using this
    have DT := Draws.tuple (prog := X.prog) (w := X.w) (A := X.A.in1) (I.ok.hd hc) it a ha2 its.toArray
    refine wpAny_pyNext_enum_itemD DT he ⟨hit, p⟩ hlt hne (by simp [hne, Ne.symm ha1]) fun u' h' tk hu' ho hst' hT hsz hk => ?_
    have hu2 : its.toArray[i]? = some u' := hu'
    have eu : u' = u := by
      have : its[i]? = some u' := by simpa using hu2
      rw [hu] at this; exact (Option.some.inj this).symm
    subst eu
    refine ⟨_, rfl, wpAny_letOwnedTupleGo_enum (s := { s with heap := h', toks := tk + 1 }) ho fun h'' he' sb => ?_⟩
    have hT2 : h''.get? s.heap.objs.size = some { cls := .type "tuple", data := .seq #[.int i tk, u'] } := (sb.2 _ (Nat.ne_of_gt hel)).trans hT
    have new : ObjOk X.prog X.w (upd H s.heap.objs.size (.tup [.int (i : Nat), x])) h'' s.heap.objs.size (.tup [.int (i : Nat), x]) := ⟨by show 2 ≤ sizeLine; decide, [.int i tk, u'], .cons ⟨_, rfl⟩ (.cons ru .nil), ⟨_, hT2, rfl, _, rfl⟩⟩
    have I1 : Inv X pins σ (upd H s.heap.objs.size (.tup [.int (i : Nat), x])) { s with heap := h'', toks := tk + 1 } := I.turnedNew (ch := [e, it]) (fun b ob hb q => (sb.2 b (fun z => hb (by simp [z]))).trans (hk b ob (fun z => hb (by simp [z])) (fun z => hb (by simp [z])) q)) hf (Nat.le_refl _) new
    refine ⟨.ref s.heap.objs.size, _, I1, rfl, ⟨_, x, rfl, I.hok.fresh (Nat.le_refl _), rfl, fun ys hy => by rw [I.tuple_inj hy hq]; exact hx⟩, ⟨⟨u', ?_⟩, hst'.1.at fun o q => (sb.2 it (Ne.symm hne)).trans q, hne⟩, fun b hb => ?_⟩
    · rw [show ((i + 1 : Nat) : Int) = (i : Int) + 1 by omega]; exact he'
    · have hb2 : b < s.heap.objs.size := by
        rcases (by simpa using hb : b = e ∨ b = it) with z | z
        · rw [z]; exact hel
        · rw [z]; exact hil
      rw [upd_ne (Nat.ne_of_lt hb2)]
      exact (hf b hb).1
  done := by
    intro X hP hw hK hc i pins s σ H E I hf st hg
    subst hP hw hK
    obtain ⟨⟨old, he⟩, hit, hne⟩ := st
    obtain ⟨xs, hq, hx⟩ := hg
    obtain ⟨its, rv, p, hz⟩ := I.tuple hq
    obtain ⟨f0, f1, f2, f3, f4, f5⟩ := hf it (by simp)
    have hl := rv.length
    exact en_end (I.ok.hd hc) he hit (show s.heap.IsTuple a its.toArray from p) (by simp; omega) fun h' eb => ⟨rfl, I.turned (t' := s.toks) (fun b o hb q => eb b o hb q) f0 f1 f3 f4 f5⟩
  self := fun A i s Q E st h => let ⟨⟨_, he⟩, _⟩ := st; wpAny_pyIter_enum he h
def iEnT (K : PySem.W.Frag) (ta : TA) : TI := fun σ H R => ta σ H fun vs H1 => ∃ a xs, vs = [.ref a] ∧ SqT K H1 a xs ∧ R (Itu K a) H1
theorem pi_enT {X : Cx} {e : Expr} {ta : TA} {p pos tpos : Pos} {elts : List Expr} {kk : Nat} (hg : Gl X "enumerate") (hm : X.mg "enumerate" = none) (ha : PA X [e] ta) (hs : starEach [e] X.env = [(false, eval e X.env)] := by rfl) :
    PI X (.Tuple elts kk tpos) (.Call (.Name "enumerate" p) [e] [] pos) (iEnT X.K ta) := by
  refine ⟨fun pins s σ H R I h => ?_⟩
  refine Call_ (ld_blt I hg hm boot_enumerate (PyProof.Rows.callWith_type1 (thn (ha.run pos pins s σ H _ I h) fun us s1 ⟨vs, H1, I1, r1, q1⟩ => ?_) hs rfl))
  obtain ⟨a, xs, ex, hq, q⟩ := q1
  subst ex
  cases r1 with
  | cons r rr =>
    cases rr
    cases r
    obtain ⟨its, rv, p2, hz⟩ := I1.tuple hq
    have p3 : s1.heap.IsTuple a its.toArray := p2
    have hal : a < s1.heap.objs.size := by obtain ⟨_, q, _⟩ := p3; exact Heap.lt_size q
    refine en_call p3 fun h' he hit hk => wpAny_pyIter_enum he ?_
    have I2 : Inv X pins σ H1 { s1 with heap := h' } := I1.kept (t' := s1.toks) hk
    refine ⟨s1.heap.objs.size + 1, [s1.heap.objs.size + 1, s1.heap.objs.size], _, _, H1, rfl, I2, turn_enT a (s1.heap.objs.size + 1) s1.heap.objs.size (Nat.ne_of_lt (Nat.lt_succ_of_lt hal)) (Nat.ne_of_lt hal), ⟨⟨.none, he⟩, hit, Nat.succ_ne_self _⟩, fun b hb => ?_, q⟩
    have hle : s1.heap.objs.size ≤ b := by
      rcases (by simpa using hb : b = s1.heap.objs.size + 1 ∨ b = s1.heap.objs.size) with z | z
      · rw [z]; exact Nat.le_succ _
      · rw [z]; exact Nat.le_refl _
    exact I1.fpOk hle (I1.hok.fresh hle)
def enumD (ds : List D) : List D := ds.zipIdx.map fun p => .tup [.int (p.2 : Nat), p.1]
theorem enumD_get {ds : List D} {i : Nat} {z : D} (h : (enumD ds)[i]? = some z) : ∃ d, ds[i]? = some d ∧ z = .tup [.int (i : Nat), d] := by
  unfold enumD at h
  rw [List.getElem?_map, List.getElem?_zipIdx] at h
  cases hd : ds[i]? with
  | none => rw [hd] at h; cases h
  | some d => rw [hd] at h; simp at h; exact ⟨d, rfl, h.symm⟩
theorem enumD_len (ds : List D) : (enumD ds).length = ds.length := by unfold enumD; simp
theorem itu_r {K : PySem.W.Frag} {G : Gh} {a : Addr} {vs : List V} {ds : List D} (h : SqT K G.F a vs) (rs : Reps K G vs ds) : ItR K (Itu K a) G (enumD ds) where
  go := fun pn w r g i hi => by
    rw [enumD_len, ← rs.length] at hi
    exact ⟨vs, vs[i], sqT_mono (fun b o q => r.ex b o (g.f b o q)) h, List.getElem?_eq_getElem hi⟩
  yld := fun pn w r g i d x H' hd hy => by
    obtain ⟨T, y, rfl, hT, rfl, hy⟩ := hy
    obtain ⟨d0, h0, rfl⟩ := enumD_get hd
    obtain ⟨v, h1, h2⟩ := rs.get h0
    have e := hy vs (sqT_mono (fun b o q => r.ex b o (g.f b o q)) h)
    rw [h1] at e
    cases e
    have hn := r.noF hT
    exact ⟨_, gle_upd hn, r.new hT, .tup upd_same (.cons (.int _) (.cons (h2.mono (g.trans (gle_upd hn))) .nil))⟩
  stop := fun pn w r g i hi => by
    rw [enumD_len, ← rs.length] at hi
    exact ⟨vs, sqT_mono (fun b o q => r.ex b o (g.f b o q)) h, hi⟩
theorem ite_r {K : PySem.W.Frag} {G : Gh} {a : Addr} {vs : List V} {ds : List D} (h : SqL K G.F a vs) (rs : Reps K G vs ds) : ItR K (Ite K a) G (enumD ds) where
  go := fun pn w r g i hi => by
    rw [enumD_len, ← rs.length] at hi
    exact ⟨vs, vs[i], sqL_mono (fun b o q => r.ex b o (g.f b o q)) h, List.getElem?_eq_getElem hi⟩
  yld := fun pn w r g i d x H' hd hy => by
    obtain ⟨T, y, rfl, hT, rfl, hy⟩ := hy
    obtain ⟨d0, h0, rfl⟩ := enumD_get hd
    obtain ⟨v, h1, h2⟩ := rs.get h0
    have e := hy vs (sqL_mono (fun b o q => r.ex b o (g.f b o q)) h)
    rw [h1] at e
    cases e
    have hn := r.noF hT
    exact ⟨_, gle_upd hn, r.new hT, .tup upd_same (.cons (.int _) (.cons (h2.mono (g.trans (gle_upd hn))) .nil))⟩
  stop := fun pn w r g i hi => by
    rw [enumD_len, ← rs.length] at hi
    exact ⟨vs, sqL_mono (fun b o q => r.ex b o (g.f b o q)) h, hi⟩
def mEnum (m : ME) : MA := bnd m fun d s => match itD d with
  | some ds => .ok (enumD ds) s
  | none => .stuck
theorem ji_enum {X : Cx} {W : WX} {e : Expr} {m : ME} {p pos tpos : Pos} {elts : List Expr} {kk : Nat} (hg : Gl X "enumerate") (hm : X.mg "enumerate" = none) (h : JE X W e m) (hs : starEach [e] X.env = [(false, eval e X.env)] := by rfl) (hs1 : starEach [e] X.env = (false, eval e X.env) :: starEach [] X.env := by rfl) : JI X W (.Tuple elts kk tpos) (.Call (.Name "enumerate" p) [e] [] pos) (mEnum m) := by
  refine PI.imp (PI.or (pi_enum hg hm (pa_cons h pa_nil hs1) hs) (pi_enT hg hm (pa_cons h pa_nil hs1) hs)) fun σ H Q h => ?_
  obtain ⟨w, rfl, rfl, r, h⟩ := h
  have key : ∀ (d : D) (s' : S), m w.s = .ok d s' → ∃ ds, itD d = some ds ∧ okG X.K X.pn W (AI X.K) w Q (.ok (enumD ds) s') := fun d s' e => by
    unfold mEnum bnd at h
    rw [e] at h
    dsimp only at h
    cases hi : itD d with
    | none => rw [hi] at h; exact h.elim
    | some ds => rw [hi] at h; exact ⟨ds, rfl, h⟩
  cases hmm : m w.s with
  | ok d s' =>
    obtain ⟨ds, hi, hk⟩ := key d s' hmm
    cases ht : isTup d with
    | false =>
      refine .inl ⟨w, rfl, rfl, r, ?_⟩
      rw [hmm]
      intro G' v H' g r' p
      obtain ⟨a, vs, rfl, h1, h2⟩ := rep_sq p hi ht
      exact ⟨a, vs, rfl, sqL_mono r'.ex h1, hk G' _ H' g r' (ite_r h1 h2)⟩
    | true =>
      refine .inr ⟨w, rfl, rfl, r, ?_⟩
      rw [hmm]
      intro G' v H' g r' p
      obtain ⟨a, vs, rfl, h1, h2⟩ := rep_st p hi ht
      exact ⟨a, vs, rfl, sqT_mono r'.ex h1, hk G' _ H' g r' (itu_r h1 h2)⟩
  | exc y s' =>
    refine .inl ⟨w, rfl, rfl, r, ?_⟩
    unfold mEnum bnd at h
    rw [hmm] at h ⊢
    exact h
  | stuck =>
    unfold mEnum bnd at h
    rw [hmm] at h
    exact h.elim
end DL
namespace DL
open PySem PySem.Spec PySem.W L2
section
variable {K : Frag} {x D : Addr} {ox : Obj} {od : Option Obj} {prog : Program} {w : World} {A : Around} {E : Value → Shared → Prop} {s : Shared}
theorem x_cls {Q : Option Value → Shared → Prop} (C : ExcC K D) (X : K.In s.heap) (I : PySem.W.InstAt s.heap x ox D od) (h : Q (some (.ref D)) { s with toks := s.toks + 1 }) : wpAny (model prog w) A (getAttr? (.ref x) "__class__") Q E s := by
  have hf : findObj K D od "__class__" = some (.bind (.builtin "getset_descriptor.__get__") (.builtin "object.__class__")) := by
    obtain ⟨cd, hc, _⟩ := any_some C.hd
    unfold findObj
    rw [hc, Option.bind_some, C.ha, Option.bind_some]
    simp [C.hn, C.ht]
  obtain ⟨hp, gl, dr, tk, os⟩ := s
  have t0 := I.type (M := model prog w)
  have t1 := looks_findIn (M := model prog w) X C.hg
  have t2 := looks_findIn (M := model prog w) X C.hk
  have t3 := looks_find (M := model prog w) X I hf
  have sb : Looks (model prog w) hp (isInstance (.ref x) (.type "BaseException")) true := t0.andThen (looks_subIn X C.hs)
  have n0 : (false && onTheHeap (Value.builtin "BaseException.__getattribute__")) = false := rfl
  have n2 : (Value.builtin "BaseException.__getattribute__" == Value.builtin "object.__getattribute__") = false := by decide +kernel
  have n1 : (onTheHeap (Value.ref D) && Value.builtin "BaseException.__getattribute__" == Value.builtin "object.__getattribute__") = false := by rw [n2]; rfl
  unfold getAttr? getAttrBy? getAttrBy
  refine wpAny_bind (wpAny_mkText (wpAny_bind (wpAny_attempt (wpAny_holding (wpAny_bind (t0.at (wpAny_bind (t1.at ?_))))))))
  show wpAny _ _ (if (onTheHeap (Value.ref D) && Value.builtin "BaseException.__getattribute__" == Value.builtin "object.__getattribute__") = true then _ else _) _ _ _
  rw [n1, if_neg Bool.false_ne_true]
  unfold getAttrByItsOwn hookBefore
  refine wpAny_bind ?_
  rw [if_pos (show onTheHeap (Value.ref D) = true from rfl)]
  refine t2.at (wpAny_bind (wpAny_attempt (wpAny_holding ?_)))
  unfold callGetattribute
  rw [n0, if_neg Bool.false_ne_true]
  unfold boundAndCalled
  rw [PySem.F.excAttr_ValueError.ga.bind (.ref x)]
  refine wpAny_bind (wpAny_pure ?_)
  show wpAny _ _ (call (.builtin "BaseException.__getattribute__") [.ref x, .str "__class__" tk]) _ _ _
  refine wpAny_call (codeAny_call_builtin PySem.F.excAttr_ValueError.ga.plain PySem.F.entry_bexc_ga ?_)
  refine @check_slot (model prog w) _ _ ⟨hp, gl, dr, tk + 1, os⟩ "BaseException.__getattribute__" "BaseException" "__getattribute__" (.ref x) [.str "__class__" tk] [] _ (by decide +kernel) (by decide +kernel) sb (PySem.F.args_bexc_ga (.ref x) (.str "__class__" tk)) ?_
  unfold Builtin.«object.__getattribute__»
  refine wpAny_bind (wpAny_of_eq (a := ((Value.ref x : Value), [Value.str "__class__" tk])) (by first | rfl | (simp only [slotArgs]; rfl)) ?_)
  refine wpAny_bind (wpAny_pure (wpAny_bind (t0.at (wpAny_bind (t3.at ?_)))))
  show wpAny _ _ (holding [Value.builtin "object.__class__"] (call (.builtin "getset_descriptor.__get__") [.builtin "object.__class__", .ref x, .ref D]) >>= PySem.ret) _ _ _
  refine wpAny_bind (wpAny_holding (wpAny_call (class_get (s := ⟨hp, gl, dr, tk + 1, os⟩) (ox := ox) (od := od) X I C.hm ?_)))
  refine wpAny_pure ?_
  show wpAny _ _ (handedOut (.ref D)) _ _ _
  rw [handedOut_of (v := .ref D) rfl]
  first
    | exact wpAny_pure (wpAny_pure h)
    | exact wpAny_pure (wpAny_bind (wpAny_pure (wpAny_pure h)))
    | exact wpAny_pure h
theorem x_kit (C : ExcC K D) : KitX K (.ref x) (.ref D) (fun h => PySem.W.InstAt h x ox D od) where
  ty := fun _ _ _ I => I.type
  it := fun _ _ X _ => by
    obtain ⟨cdD, hcD, _⟩ := any_some C.hd
    unfold clsIn at hcD
    split at hcD
    · rename_i ho
      intro A2 Q2 E2 s2 k q
      unfold isType loadHead
      exact wpAny_bind (wpAny_loadPart (k _ _ (X _ _ ho)) (wpAny_pure q))
    · cases hcD
  ne := fun h tp dd its n sl X htp => (handS_kitx_exc (x := x) (ox := ox) C.hg C.hk C.hs C.hd C.ha C.hn C.ht C.hm).ne h tp dd its n sl X htp
  ca := fun X I k => x_cls C X I k
end
def rIsX (K : Frag) (cls : Value) (dd : Option Addr) (D a : Addr) : List V → Hp → VK → Prop := fun xs H Q => ∃ (c : V) (cv : Value) (b : Bool), xs = [.ref a, c] ∧ cls = .ref D ∧ (dd = none ∨ ∃ p fs, dd = some p ∧ H p = some (.xd fs)) ∧ (∀ u, RelV c u → u = cv) ∧ kitOne K (.ref D) cv = some b ∧ Q (.bl b) H
theorem call_isX {X : Cx} {a D : Addr} {oe : Obj} {cls : Value} {dd : Option Addr} {pn : List (Addr × Obj)} (C : ExcC X.K D) (hz : Zc cls dd oe) (hf : ∃ vs, oe.data = .fields vs) : CallR (X.suite a ((a, oe) :: pn)) (.builtin "isinstance") (rIsX X.K cls dd D a) := by
  intro pins s σ H xs us Q I r h
  obtain ⟨c, cv, b, rfl, rfl, hdd, hcv, e, q⟩ := h
  obtain ⟨u1, u2, rfl, r1, r2⟩ := vals2 r
  cases r1
  have ec := hcv _ r2
  subst ec
  obtain ⟨hget, _⟩ := I.pin (a, oe) (List.mem_append.mpr (.inl List.mem_cons_self))
  obtain ⟨vs, hv⟩ := hf
  have no : notCls oe = true := by unfold notCls; rw [hv] <;> rfl
  obtain ⟨od, J⟩ : ∃ od, PySem.W.InstAt s.heap a oe D od := by
    rcases hdd with rfl | ⟨p, fs, rfl, hp⟩
    · exact ⟨none, hget, hz.1, no, by rw [hz.2]; trivial⟩
    · obtain ⟨mA, hns, _⟩ := (show ObjOk X.prog X.w H s.heap p (.xd fs) from I.hok p _ hp)
      obtain ⟨od, ho, _⟩ := lookIn_ns hns
      exact ⟨some od, hget, hz.1, no, by rw [hz.2]; exact ho⟩
  exact kia_one (x_kit C) I.kIn J e (fun z => nomatch z) fun tk => ⟨.bl b, H, I.kept (t' := tk) fun _ _ z => z, rfl, q⟩
/-- isinstance(e, C): e in slot i; tab: by the error's class -/
def mIsX (tab : Str → Option Bool) (i : Nat) : ME := fun s => match s.sl[i]? with
  | some (.xn x) => (match tab x.c with
    | some b => .ok (.bl b) s
    | none => .stuck)
  | _ => .stuck
section
variable {X : Cx} {a : Addr} {oe : Obj} {cls : Value} {d : Option Addr} {pn : List (Addr × Obj)} {i : Nat} {y c : Str} {p q pos fp : Pos}
/-- a call rule that may lean on the class of the error that is held -/
theorem call_isXs {tab : Str → Option Bool} {cv : Value} (hC : ∀ z b, tab z = some b → ExcC X.K (He.ga X.K z) ∧ kitOne X.K (.ref (He.ga X.K z)) cv = some b) (hz : Zc cls d oe) (hf : ∃ vs, oe.data = .fields vs) :
    CallR (X.suite a ((a, oe) :: pn)) (.builtin "isinstance") (fun xs H Q => ∃ z b, tab z = some b ∧ cls = .ref (He.ga X.K z) ∧ (d = none ∨ ∃ p fs, d = some p ∧ H p = some (.xd fs)) ∧ (∃ v, xs = [.ref a, v] ∧ ∀ u, RelV v u → u = cv) ∧ Q (.bl b) H) := by
  intro pins s σ H xs us Q I r h
  obtain ⟨z, b, h1, h2, h3, ⟨v, rfl, h4⟩, q⟩ := h
  obtain ⟨C, k⟩ := hC z b h1
  exact call_isX C hz hf pins s σ H _ us Q I r ⟨v, cv, b, rfl, h2, h3, h4, k, q⟩
theorem je_isX {tab : Str → Option Bool} {cv : Value} {v : V} (hC : ∀ z b, tab z = some b → ExcC X.K (He.ga X.K z) ∧ kitOne X.K (.ref (He.ga X.K z)) cv = some b) (hz : L2N.Zn cls d oe) (hf : ∃ vs, oe.data = .fields vs) (hg : Gl X "isinstance") (hm : X.mg "isinstance" = none)
    (hc : PE (X.suite a ((a, oe) :: pn)) (.Name c q) (tC v)) (hcv : ∀ u, RelV v u → u = cv) (hN : X.N[i]? = some y := by rfl) (hv : Vis X.env.scope y := by first | exact Or.inl rfl | exact Or.inr (Or.inl rfl) | exact Or.inr (Or.inr rfl)) (hd : (y == ("__debug__" : Str)) = false := by decide) (hcd : (y == ("__classdict__" : Str)) = false := by decide)
    (hs : starEach [.Name y p, .Name c q] X.env = (false, eval (.Name y p) X.env) :: starEach [.Name c q] X.env := by rfl) (hs2 : starEach [.Name c q] X.env = (false, eval (.Name c q) X.env) :: starEach [] X.env := by rfl) (h2 : (backTo pos (starEach [.Name c q] X.env)).any (·.1) = false := by rfl) :
    JE (X.suite a ((a, oe) :: pn)) WF (.Call (.Name "isinstance" fp) [.Name y p, .Name c q] [] pos) (mIsX tab i) := by
  refine PE.imp (pe_callB (X := X.suite a ((a, oe) :: pn)) (call_isXs hC hz.zc hf) hg hm rfl (pa_cons (pv (X := X.suite a ((a, oe) :: pn)) i hN hv hd hcd) (pa_cons hc pa_nil hs2) hs) (by decide) (by decide) hs h2) fun σ H Q h => ?_
  obtain ⟨w, rfl, rfl, r, h⟩ := h
  unfold mIsX at h
  split at h
  · rename_i x hx
    split at h
    · rename_i b hb
      obtain ⟨a', oe', tl, cls', d', e1, e2, e3, e4⟩ := r.sl.xn i x hx
      cases e1
      have ec : cls' = cls := e3.1.symm.trans hz.1
      have ed : d' = d := e3.2.symm.trans hz.2.1
      subst ec ed
      obtain ⟨q1, q2⟩ := e4
      refine ⟨_, e2, x.c, b, hb, q1, ?_, ⟨v, rfl, hcv⟩, h _ _ _ (.refl _) r (.bl _)⟩
      cases hfs : x.fs with
      | nil => rw [hfs] at q2; exact .inl q2
      | cons f fs =>
        rw [hfs] at q2
        obtain ⟨b2, fvs, k1, k2, _⟩ := q2
        exact .inr ⟨b2, fvs, k1, r.ex _ _ k2⟩
    · exact h.elim
  · exact h.elim
end
end DL
namespace HK
open PySem PySem.Spec PySem.W L2 DL He
/-- an error class: its name, its field, its __init__'s qualified name, the text, the places -/
structure XD where
  c : Str
  f : Str
  q : Str
  txt : Str
  p : XPos
  p6 : Pos
abbrev XW : Type := Option (Str × Str × Arguments × FuncBody × Scope × Addr × List Str × Addr)
def iAd (K : Frag) (d : XD) : Addr := ma K (ga K d.c) "__init__"
def XD.val (d : XD) : XW := some ("__init__", d.q, xParams d.f d.p, .stmts [xSuper d.txt d.p d.p6, xStore d.f d.p], xScope d.f, mainGlobals, ["__class__"], builtinsNs)
def fileB (K : Frag) (file : Str) : Value → Bool
  | .ref cda => (match K.lookup cda with
    | some ⟨_, _, .fields vs, _⟩ => (match vs[2]? with
      | some (Value.str y _) => (file == y)
      | _ => false)
    | _ => false)
  | _ => false
def cellB (K : Frag) (C : Addr) : List (Str × Addr) → Bool
  | [(_, cc)] => (match K.lookup cc with
    | some ⟨_, _, .cell (some (.ref b)), _⟩ => decide (b = C)
    | _ => false)
  | _ => false
def noneB : Value → Bool
  | .none => true
  | _ => false
def excB (K : Frag) (C : Addr) : Bool := eqO (findIn K (.ref C) "__class__") (some (some (.builtin "object.__class__"))) && (eqO (specialIn K (.builtin "object.__class__") "__get__") (some (some (.builtin "getset_descriptor.__get__"))) && (decide (takesIn K (.builtin "object.__class__") = some true) && (decide (mroIn K C (.type "object") = some true) && xfB K C)))
theorem excB_ok {K : Frag} {C : Addr} (h : excB K C = true) : ExcC K C := by
  obtain ⟨h1, h⟩ := ba h
  obtain ⟨h2, h⟩ := ba h
  obtain ⟨h3, h⟩ := ba h
  obtain ⟨h4, h⟩ := ba h
  obtain ⟨k1, k2, k3, k4⟩ := xfB_ok h
  exact ⟨k1, k2, k3, k4, eqO_ok h1, eqO_ok h2, of_decide_eq_true h3, of_decide_eq_true h4⟩
def xFunB (K : Frag) (file : Str) (d : XD) : Bool := match K.lookup (iAd K d) with
  | some ⟨_, _, .func fd, _⟩ => codeIn K fd.code d.q && (fileB K file fd.code && (cellB K (ga K d.c) fd.closure && (noneB fd.defaults && noneB fd.kwdefaults)))
  | _ => false
def xB1 (K : Frag) (d : XD) : Bool := excInitIn K (ga K d.c) HandSPX.veTail "ValueError.__new__" && ((match clsIn K (ga K d.c) with
  | some cd => HandSPX.refsVE cd.mro && cd.hasDict
  | none => false) && (eqO (findIn K (.ref (ga K d.c)) "__setattr__") (some (some (.builtin "object.__setattr__"))) && (eqO (findIn K (.ref (ga K d.c)) d.f) (some none) && (keepIn K (.ref (ga K d.c)) && (decide (subIn K (.ref (ga K d.c)) (.type "BaseException") = some true) && decide (subIn K (.ref (ga K d.c)) (.type "ValueError") = some true))))))
def xB2 (K : Frag) (d : XD) : Bool := decide (typeIn K (.ref (ga K d.c)) = some (.type "type")) && (eqO (ks_superIn K (ga K d.c) (ga K d.c) "__init__") (some (some (.builtin "ValueError.__init__"))) && (decide (mroIn K (ga K d.c) (.ref (ga K d.c)) = some true) && (eqO (nsIn K cStatics "thirdparty.any") (some none) && (eqO (findIn K (.ref (ga K d.c)) "__init__") (some (some (.ref (iAd K d)))) && decide (typeIn K (.ref (iAd K d)) = some (.type "function"))))))
def XD.ok (K : Frag) (file : Str) (d : XD) : Bool := xB1 K d && (xB2 K d && (xFunB K file d && excB K (ga K d.c)))
/-- what is asked of the field's name -/
def XD.nm (d : XD) : Bool := decide (¬ d.f = "self") && (decide (¬ d.f = "super") && (decide (¬ d.f = "__class__") && (!(d.f == ("__debug__" : Str)))))
end HK
namespace DL
open PySem PySem.Spec L2
/-- nothing flies -/
theorem tkF {X : Cx} : L2N.Takes X WF := fun u s' x => by
  obtain ⟨a, B, sI, pins, σ, H, cls, d, e, I, nb, up, sky, na, os, ag, w⟩ := x
  exact w.elim
/-- slot i != e, the slot only looked at -/
def mNeV (i : Nat) (m : ME) : ME := fun s => match cur s i with
  | some _ => bnd m (fun e s => match cur s i with
    | some d => lift (fNe d e) s
    | none => .stuck) s
  | none => .stuck
section
variable {X : Cx} {W : WX} {b : Expr} {mb : ME} {pos p : Pos}
def blkB (N : List Str) (sc scope : Scope) (own : List (Str × Nat)) : Bool := decide (scope.kind = .function) && ((scope.names.all fun y => decide (scope.names.lookup y.1 = some y.2)) && ((own.all fun p => decide (N[p.2]? = some p.1)) && ((scope.names.all fun y => decide (y.2 ≠ .free) || (decide (sc.names.lookup y.1 = some .cell) || decide (sc.names.lookup y.1 = some .free))) &&
  (scope.names.all fun y => decide (y.2 ≠ .local ∧ y.2 ≠ .cell) || ((own.map (·.1)).contains y.1 || !N.contains y.1)))))
theorem blk_ok {scope : Scope} {own : List (Str × Nat)} (h : blkB X.N X.env.scope scope own = true) : BlkOk X.N X.env.scope scope own := by
  obtain ⟨h1, h⟩ := Bool.and_eq_true_iff.mp h
  obtain ⟨h2, h⟩ := Bool.and_eq_true_iff.mp h
  obtain ⟨h3, h⟩ := Bool.and_eq_true_iff.mp h
  obtain ⟨h4, h5⟩ := Bool.and_eq_true_iff.mp h
  rw [List.all_eq_true] at h2 h3 h4 h5
  refine ⟨of_decide_eq_true h1, fun y hy => of_decide_eq_true (h2 y hy), fun q hq => of_decide_eq_true (h3 q hq), fun y hy e => ?_, fun y hy e => ?_⟩
  · have z := h4 y hy
    rw [e] at z
    simpa using z
  · have z := h5 y hy
    rcases e with e | e <;> rw [e] at z <;> simpa using z
end
end DL
namespace DL
open PySem PySem.Spec L2
/-- the def x of the module, as the written part has it -/
def FnW (K : PySem.W.Frag) (x : Str) (st : Stmt) : Prop := ∃ fd, FunD K x x (defArgs st) (defBody st) (defScope st) [] [] (He.ga K x) fd
/-- what is known of a def: it does fn -/
def Kn (P : Program) (w : World) (K : PySem.W.Frag) (mg : Str → Option Value) (base : Heap) (x : Str) (k : Nat) (ps : List Str) (fn : Fn) : Prop := ∃ f fd, FnOk P w K mg base (L2N.CX P w) k f fd ps (spF K ps.length fn) ∧ mg x = some (.ref f) ∧ PySem.W.keepIn K (.ref f) = true ∧ Binds K fd ps [] ∧ ∃ oc od osl, K.lookup f = some ⟨oc, od, .func fd, osl⟩
theorem FunD.look {K : PySem.W.Frag} {x q : Str} {params : Arguments} {body : List Stmt} {scope : Scope} {dvs : List V} {kws : List (Str × V)} {f : Addr} {fd : FuncData} (F : FunD K x q params body scope dvs kws f fd) : ∃ oc od osl, K.lookup f = some ⟨oc, od, .func fd, osl⟩ := by
  obtain ⟨oc, od, dV, kV, doc, pm, an, cdv, ct, osl, _, lk, _⟩ := F.ex
  exact ⟨oc, od, osl, lk⟩
section
variable {P : Program} {w : World} {K : PySem.W.Frag} {mg : Str → Option Value} {base : Heap} {x : Str} {st : Stmt}
theorem kn_ok {N ps : List Str} {k : Nat} {m : MS} (F : FnW K x st) (hm : mg x = some (.ref (He.ga K x))) (Sc : FnScope N ps (defScope st))
    (hbn : ∀ (kV doc pm : Value) (an : Option Addr) (cdv ct : Value) (us : List Value), us.length = ps.length → bindArgs (PySem.W.fnOf x x (defArgs st) (defBody st) (defScope st) .none kV doc pm an cdv ct) ⟨us, []⟩ = pure (ps.zip us))
    (hb : ∀ (cdv : Value) (A : Around) (outer : List Env) (s : Shared) (H : Hp) (E : XK), Room k (A.deeper (PyProof.Rows.envOfC x (defScope st) s.heap.objs.size (He.ga K x) cdv)) →
      L2N.Takes (cxOf (L2N.CX P w) P w K mg base N x (defScope st) (He.ga K x) cdv A outer s H E) (fun c d _ H => E c d H) → PassesOwn (model P w) (A.deeper (PyProof.Rows.envOfC x (defScope st) s.heap.objs.size (He.ga K x) cdv)) (PyProof.Rows.envOfC x (defScope st) s.heap.objs.size (He.ga K x) cdv) (cxOf (L2N.CX P w) P w K mg base N x (defScope st) (He.ga K x) cdv A outer s H E).xe →
      (A.deeper (PyProof.Rows.envOfC x (defScope st) s.heap.objs.size (He.ga K x) cdv)).units + 64 < cLine → (A.deeper (PyProof.Rows.envOfC x (defScope st) s.heap.objs.size (He.ga K x) cdv)).units + 1 < cLine →
      JSs (cxOf (L2N.CX P w) P w K mg base N x (defScope st) (He.ga K x) cdv A outer s H E) (fun c d _ H => E c d H) (defBody st) m) :
    Kn P w K mg base x (k + 1) ps (fnM N.length m) := by
  obtain ⟨fd, F⟩ := F
  refine ⟨He.ga K x, fd, fn_ok F Sc fun cdv A outer s H E hr => ?_, hm, F.kp, F.bindsN hbn, FunD.look F⟩
  exact hb cdv A outer s H E hr (L2N.takes_of rfl rfl rfl rfl) (passes_of (X := cxOf (L2N.CX P w) P w K mg base N x (defScope st) (He.ga K x) cdv A outer s H E) rfl) (by have := hr.un; omega) (by have := hr.un; omega)
end
section
variable {X : Cx} {W : WX} {k : Nat} {ps : List Str} {fn : Fn} {x : Str} {p pos : Pos} {e : Expr} {es : List Expr} {m : MA}
theorem je_callK (C : Kn X.prog X.w X.K X.mg X.base x k ps fn) (hr : Room k X.A) (tk : L2N.Takes X W) (hg : Gl X x)
    (ha : JA X W (e :: es) m) (hl : (e :: es).length = ps.length := by rfl) (hdb : (x == ("__debug__" : Str)) = false := by decide) (he : starEach (e :: es) X.env = (false, eval e X.env) :: starEach es X.env := by rfl) (hpl : (backTo pos (starEach es X.env)).any (·.1) = false := by rfl) :
    JE X W (.Call (.Name x p) (e :: es) [] pos) (mCall fn m) := by
  obtain ⟨f, fd, F, hm, hk, hb, _⟩ := C
  exact je_call F hr tk hg hm hk hb ha hl hdb he hpl
end
end DL
namespace DL
open PySem PySem.Spec L2
theorem law_cx {P : Program} {w : World} {K : PySem.W.Frag} {mg : Str → Option Value} {base : Heap} {k : Nat} {f : Addr} {fd : FuncData} {ps : List Str} {sp : Sp} (F : FnOk P w K mg base (L2N.CX P w) k f fd ps sp) : FnOk P w K mg base (fun _ _ _ _ _ _ => False) k f fd ps (fun vs H Q _ => sp vs H Q fun _ _ _ => False) := by
  refine ⟨fun vs H Q E h => F.len vs H Q _ h, fun A outer s H args us vs Q E hr e0 hb hv h => ?_⟩
  refine codeAny_mono (F.run A outer s H args us vs Q (fun _ _ _ => False) hr e0 hb hv h) fun r s' hh => ?_
  cases r with
  | ok x => cases x <;> exact hh
  | error e =>
    obtain ⟨a, B, H', cls, d, h1, h2, h3, h4, h5, h6, h7, h8⟩ := hh
    exact h8.elim
theorem law_fd {P : Program} {w : World} {K : PySem.W.Frag} {mg : Str → Option Value} {base : Heap} {k : Nat} {fa : Addr} {fd : FuncData} {ps : List Str} {x q : Str} {params : Arguments} {body : List Stmt} {scope : Scope} {fn : Fn} (kn : Kn P w K mg base x k ps fn) (F : FunD K x q params body scope [] [] (He.ga K x) fd)
    (hm : mg x = some (.ref fa)) (hg : mg x = some (.ref (He.ga K x))) : FnOk P w K mg base (fun _ _ _ _ _ _ => False) k fa fd ps (fun vs H Q _ => spF K ps.length fn vs H Q fun _ _ _ => False) := by
  obtain ⟨f, fd', F', hm', _, _, oc', od', osl', lk'⟩ := kn
  obtain ⟨oc, od, osl, lk⟩ := FunD.look F
  have e : fa = f := by
    have z := hm.symm.trans hm'
    cases z; rfl
  have e2 : fa = He.ga K x := by
    have z := hm.symm.trans hg
    cases z; rfl
  subst e
  rw [e2, lk] at lk'
  cases lk'
  exact law_cx F'
theorem mem_lookA {β : Type} : ∀ {l : List (Addr × β)} {a : Addr} {b : β}, l.lookup a = some b → (a, b) ∈ l
  | (c, d) :: l, a, b, h => by
    rw [List.lookup_cons] at h
    split at h
    · rename_i e
      have e : a = c := by simpa using e
      cases h; subst e; exact List.mem_cons_self
    · exact List.mem_cons_of_mem _ (mem_lookA h)
/-- what is frozen at the law's entry: all but the tables -/
def fz0 (H : Hp) : Hp := fun a => match H a with
  | some (.tbl _) => none
  | x => x
theorem fz0_get {H : Hp} {a : Addr} {o : HO} (h : fz0 H a = some o) : H a = some o := by
  unfold fz0 at h
  split at h
  · cases h
  · exact h
theorem sq_fz0 {K : PySem.W.Frag} {H : Hp} {a : Addr} {xs : List V} (h : SqL K H a xs) : SqL K (fz0 H) a xs := by
  rcases h with (h | ⟨o, h⟩) | h
  · exact .inl (.inl (by unfold fz0; rw [h]))
  · exact .inl (.inr ⟨o, by unfold fz0; rw [h]⟩)
  · exact .inr h
theorem law_sp {K : PySem.W.Frag} {fn : Fn} {H : Hp} {a : Addr} {ns : List Int} (hT : ∀ P q, TabK K P q → H P = some (.tbl #[])) (hS : SqL K H a (ns.map V.int)) (hf : ∃ st, fn [.kl (ns.map D.int)] [] = .ok (.bl true) st) : spF K 1 fn [.ref a] H (fun v _ => v = .bl true) fun _ _ _ => False := by
  obtain ⟨st, hf⟩ := hf
  refine ⟨⟨fz0 H, []⟩, [.kl (ns.map D.int)], [], rfl, ⟨fun _ _ h => fz0_get h, ⟨rfl, (fun n b o h => by simp at h), (fun b h => by cases h), List.nodup_nil⟩, fun P q hP => ?_⟩, .cons (.kl (sq_fz0 hS) (ints_rep ns)) .nil, ?_⟩
  · have h0 := hT P q hP
    refine ⟨⟨_, h0⟩, by show fz0 H P = none; unfold fz0; rw [h0], (by simp), #[], h0, trivial, fun pos cv hc => ?_⟩
    have z : codeAmong pos [] = some cv := hc
    simp [codeAmong] at z
  · rw [hf]
    intro G' v H' _ _ p
    cases p
    rfl
end DL
namespace DL
open PySem PySem.Spec L2
def fStuck : Fn := fun _ _ => .stuck
theorem kn_stuck {P : Program} {w : World} {K : PySem.W.Frag} {mg : Str → Option Value} {base : Heap} {x : Str} {st : Stmt} {ps : List Str} {k : Nat} (F : FnW K x st) (hm : mg x = some (.ref (He.ga K x)))
    (hbn : ∀ (kV doc pm : Value) (an : Option Addr) (cdv ct : Value) (us : List Value), us.length = ps.length → bindArgs (PySem.W.fnOf x x (defArgs st) (defBody st) (defScope st) .none kV doc pm an cdv ct) ⟨us, []⟩ = pure (ps.zip us)) : Kn P w K mg base x k ps fStuck := by
  obtain ⟨fd, F⟩ := F
  refine ⟨He.ga K x, fd, ⟨fun vs H Q E h => ?_, fun A outer s H args us vs Q E hr e0 hb hv h => ?_⟩, hm, F.kp, F.bindsN hbn, FunD.look F⟩
  · obtain ⟨G, ds, st, hl, _⟩ := h
    exact hl
  · obtain ⟨G, ds, st, hl, _, _, h⟩ := h
    exact h.elim
end DL
namespace DL
open PySem PySem.Spec PyProof.Rows L2
end DL
namespace DL
open PySem PySem.Spec L2
end DL
namespace DL
open PySem PySem.Spec L2
end DL
namespace DL
open PySem PySem.Spec L2
end DL
namespace DL
open PySem PySem.Spec L2
end DL
namespace DL
open PySem PySem.Spec PyProof.Rows L2
theorem tmul1 (l : Addr) (items : Array Value) (n : Nat) (dd : Option Addr) (sl : Array (Option Value)) (u : Tok) :
    Meets (Builtin.«tuple.__mul__» ⟨[.ref l, .int 1 u], []⟩) (fun _ R s => s.heap.get? l = some { cls := .type "tuple", dict := dd, data := .seq items n, slots := sl } ∧ R (.ok (.ret (Value.ref l))) s) :=
  .of_wp fun prog w A R s h => by
    obtain ⟨hp, g, d, tk, os⟩ := s
    obtain ⟨hl, h⟩ := h
    have f1 := AutoSeq1.idx_int
    have c1 : (items.isEmpty || (1 : Int) == 1) = true := by simp
    wp_walk using wpAny_loadPart' hl
    repeat (first
      | (refine wpAny_ite_true (decide_eq_true c1) ?_; wp_walk using wpAny_loadPart' hl)
      | (refine wpAny_ite_true ?_ ?_; · simp; wp_walk using wpAny_loadPart' hl))
    all_goals exact ⟨_, rfl, h⟩
theorem tmul0 (l : Addr) (items : Array Value) (n : Nat) (dd : Option Addr) (sl : Array (Option Value)) (x : Int) (u : Tok) (c0 : (decide (x < -(2 ^ 63)) || decide (x ≥ 2 ^ 63)) = false) (c1 : (items.isEmpty || x == 1) = false) (c2 : (decide (x ≤ 0) || items.isEmpty) = true) :
    Meets (Builtin.«tuple.__mul__» ⟨[.ref l, .int x u], []⟩) (fun _ R s => s.heap.get? l = some { cls := .type "tuple", dict := dd, data := .seq items n, slots := sl } ∧
      R (.ok (.ret (Value.ref s.heap.objs.size))) { s with heap := s.heap.push { cls := Value.type "tuple", data := Data.seq #[] }, toks := s.toks }) :=
  .of_wp fun prog w A R s h => by
    obtain ⟨hp, g, d, tk, os⟩ := s
    obtain ⟨hl, h⟩ := h
    have f1 := AutoSeq1.idx_int
    wp_walk using wpAny_loadPart' hl
    repeat (first
      | (refine wpAny_ite_false (decide_eq_false (by rw [c0]; exact Bool.false_ne_true)) ?_; wp_walk using wpAny_loadPart' hl)
      | (refine wpAny_ite_false (decide_eq_false (by rw [c1]; exact Bool.false_ne_true)) ?_; wp_walk using wpAny_loadPart' hl)
      | (refine wpAny_ite_true (decide_eq_true c2) ?_; wp_walk using wpAny_loadPart' hl))
    all_goals exact ⟨_, rfl, h⟩
def rRep01 (K : PySem.W.Frag) : R2 := fun x y H Q => ∃ l k xs, x = .ref l ∧ y = .int k ∧ SqT K H l xs ∧ ((k = 1 ∧ Q (.ref l) H) ∨ (k = 0 ∧ xs ≠ [] ∧ ∀ p, H p = none → Q (.ref p) (upd H p (.tup []))))
theorem op_rep01 {X : Cx} : OpR X (binaryOp .Mult) (rRep01 X.K) := by
  intro pins s σ H x y v u Q I rx ry h
  obtain ⟨l, k, xs, rfl, rfl, hT, h⟩ := h
  cases rx
  obtain ⟨t, rfl⟩ := ry
  obtain ⟨its, r, ⟨⟨cls, dd, data, sl⟩, ho, hc, n, hd⟩, hs⟩ := I.tuple hT
  simp only at hc hd
  subst hc hd
  have hle : its.length = xs.length := r.length.symm
  rcases h with ⟨rfl, q⟩ | ⟨rfl, hne, q⟩
  · refine wpAny_binaryOp_repeat_ref (T := "tuple") (U := "int") (by decide) ⟨_, ho, rfl⟩ (fun s' => typeIs_int s' 1 t) noFill_tuple_mul F.fills_int_mul F.slot_int_rmul repeat_tuple F.slot_int_index.lookup
      (call_meets F.slot_int_rmul (typeIs_int s 1 t) F.entry_int_rmul (F.args_int_rmul_2 _ _) (int_rmul_tuple 1 t l its.toArray n dd sl)
        ⟨ho, rfl, ⟨_, ho, rfl⟩, call_meets F.slot_tuple_mul ⟨_, ho, rfl⟩ F.entry_tuple_mul (F.args_tuple_mul_2 _ _) (tmul1 l its.toArray n dd sl t) ⟨ho, ?_⟩⟩)
    exact ⟨.ref l, H, I, rfl, q⟩
  · have hn : its ≠ [] := fun e => hne (List.eq_nil_of_length_eq_zero (by rw [← hle, e]; rfl))
    have hi : its.toArray.isEmpty = false := by
      cases its with
      | nil => exact absurd rfl hn
      | cons a b => rfl
    refine wpAny_binaryOp_repeat_ref (T := "tuple") (U := "int") (by decide) ⟨_, ho, rfl⟩ (fun s' => typeIs_int s' 0 t) noFill_tuple_mul F.fills_int_mul F.slot_int_rmul repeat_tuple F.slot_int_index.lookup
      (call_meets F.slot_int_rmul (typeIs_int s 0 t) F.entry_int_rmul (F.args_int_rmul_2 _ _) (int_rmul_tuple 0 t l its.toArray n dd sl)
        ⟨ho, rfl, ⟨_, ho, rfl⟩, call_meets F.slot_tuple_mul ⟨_, ho, rfl⟩ F.entry_tuple_mul (F.args_tuple_mul_2 _ _) (tmul0 l its.toArray n dd sl 0 t (by decide) (by rw [hi]; decide) (by rw [hi]; decide)) ⟨ho, ?_⟩⟩)
    refine ⟨.ref s.heap.objs.size, _, I.laid (t' := s.toks) (o := .tup []) (fun b ob q => Heap.get?_push_of_some _ q) (Nat.le_refl _) ?_, rfl, q _ (I.hok.fresh (Nat.le_refl _))⟩
    exact ⟨by rw [sizeLine_eq]; decide, _, .nil, IsTup.new _ _⟩
/-- tuple * int, the tuple not empty -/
def fMulT : D → D → Option D
  | .tup xs, .int k => if xs ≠ [] ∧ 0 ≤ k ∧ k ≤ 1000 ∧ xs.length ≤ 1000 then some (.tup (List.replicate k.toNat xs).flatten) else none
  | _, _ => none
instance decNil (xs : List D) : Decidable (xs ≠ []) := match xs with
  | [] => .isFalse fun h => h rfl
  | _ :: _ => .isTrue nofun
def rMulT (K : PySem.W.Frag) : R2 := fun x y H Q => rRep01 K x y H Q ∨ rRepT K x y H Q
theorem op_mulT {X : Cx} : OpR X (binaryOp .Mult) (rMulT X.K) := op_rep01.or op_repT
theorem k_mulT {K : PySem.W.Frag} : R2Ok K (rMulT K) fMulT := by
  intro pn w x y d e z Q r p1 p2 hz k
  unfold fMulT at hz
  split at hz
  · split at hz
    · rename_i xs j hf
      obtain ⟨hne, h0, h1, hl⟩ := hf
      cases hz
      cases p2
      cases p1 with
      | tup hs rs =>
        have hT := tqT (K := K) r.ex hs
        have hv : ∀ {vs : List V}, Reps K w.G vs xs → vs ≠ [] := fun {vs} q e => by subst e; cases q; exact hne rfl
        by_cases c0 : j = 0
        · subst c0
          refine .inl ⟨_, _, _, rfl, rfl, hT, .inr ⟨rfl, hv rs, fun p hp => ?_⟩⟩
          exact k _ _ _ (gle_upd (r.noF hp)) (r.new hp) (.tup upd_same .nil)
        · by_cases c1 : j = 1
          · subst c1
            refine .inl ⟨_, _, _, rfl, rfl, hT, .inl ⟨rfl, ?_⟩⟩
            have e : (List.replicate (1 : Int).toNat xs).flatten = xs := by simp
            rw [e] at k
            exact k _ _ _ (.refl _) r (.tup hs rs)
          · refine .inr ⟨_, _, _, rfl, rfl, hT, hv rs, by omega, h1, by rw [rs.length]; exact hl, fun p hp => ?_⟩
            exact k _ _ _ (gle_upd (r.noF hp)) (r.new hp) (.tup upd_same ((reps_rep rs _).mono (gle_upd (r.noF hp))))
    · cases hz
  · cases hz
end DL
namespace DL
open PySem PySem.Spec PyProof.Rows L2
end DL
namespace DL
open PySem PySem.Spec L2
end DL
namespace DL
open PySem PySem.Spec L2
def stepsD (lo c : Int) (n : Nat) : List D := (List.range n).map fun (k : Nat) => .int (lo + k * c)
theorem stepsD_get {lo c : Int} {n i : Nat} {d : D} (h : (stepsD lo c n)[i]? = some d) : i < n ∧ d = .int (lo + (i : Nat) * c) := by
  unfold stepsD at h
  rw [List.getElem?_map] at h
  by_cases hl : i < n
  · rw [List.getElem?_range hl] at h
    cases h
    exact ⟨hl, rfl⟩
  · rw [List.getElem?_eq_none (by simpa using hl)] at h
    cases h
theorem itc_r {K : PySem.W.Frag} {G : Gh} {lo c : Int} {n : Nat} : ItR K (Itc lo c n) G (stepsD lo c n) where
  go := fun pn w r g i hi => by show i < n; simpa [stepsD] using hi
  yld := fun pn w r g i d x H' hd y => by
    obtain ⟨e, y⟩ := y
    subst e y
    obtain ⟨_, rfl⟩ := stepsD_get hd
    exact ⟨w.G, .refl _, r, .int _⟩
  stop := fun pn w r g i hi => by show n ≤ i; simpa [stepsD] using hi
def rng3 : List D → Option (List D)
  | [.int i, .int j, .int c] => if c ≠ 0 ∧ c.natAbs < 1073741824 ∧ Builtin.Range.small i j c = true ∧ 0 ≤ Builtin.Range.rangeSize i j c then some (stepsD i c (Builtin.Range.rangeSize i j c).toNat) else none
  | _ => none
theorem ji_range3 {X : Cx} {W : WX} {tg a b c : Expr} {m : MA} {p pos : Pos} (hg : Gl X "range") (hm : X.mg "range" = none) (ha : JA X W [a, b, c] m) (hs : starEach [a, b, c] X.env = (false, eval a X.env) :: starEach [b, c] X.env := by rfl) (hpl : (backTo pos (starEach [b, c] X.env)).any (·.1) = false := by rfl) : JI X W tg (.Call (.Name "range" p) [a, b, c] [] pos) (mRng rng3 m) := by
  refine PI.imp (pi_range3 hg hm ha.pa hs hpl) fun σ H Q h => ?_
  obtain ⟨w, rfl, rfl, r, h⟩ := h
  refine run r h fun ds s2 G' vs H' g r' q h' => ?_
  cases hd : rng3 ds with
  | none => rw [hd] at h'; exact h'.elim
  | some l =>
    rw [hd] at h'
    unfold rng3 at hd
    split at hd
    · split at hd
      · rename_i hj
        cases hd
        cases q with
        | cons q1 q2 =>
          cases q1
          cases q2 with
          | cons q2 q3 =>
            cases q2
            cases q3 with
            | cons q3 q4 =>
              cases q3; cases q4
              exact ⟨_, _, _, _, rfl, ⟨hj.1, hj.2.1, hj.2.2.1, (Int.toNat_of_nonneg hj.2.2.2).symm⟩, fin r' h' itc_r⟩
      · cases hd
    · cases hd
end DL
namespace LC
open PySem PySem.Spec L2 DL
noncomputable section
def m__law_draw : MS := (mSeq (mIfS (mBl (mBin iGt (mGet (mVar 0) (.inr "rest")) (mC (.int 0)))) (mSeq (mSet 2 (mBin iMod (mUn fInt (mGet (mVar 0) (.inr "rest"))) (mVar 1)))
  (mSeq (mPut (mVar 0) (.inr "rest") (mBin iDiv (mGet (mVar 0) (.inr "rest")) (mVar 1)))
  (mRet (mVar 2)))) mPass)
  (mSeq (mPar 3 4 (mCons (mGet (mVar 0) (.inr "begun")) (mCons (mUn fLen (mGet (mVar 0) (.inr "cells"))) mNil)))
  (mSeq (mPut (mVar 0) (.inr "begun") (mBin fAdd (mVar 3) (mC (.int 1))))
  (mSeq (mSet 5 (mBin fAdd (mBin fMul (mC (.int 73)) (mVar 3)) (mC (.int 19))))
  (mSeq (mIfS (mBl (mBin iGt (mVar 4) (mC (.int 0)))) (mSet 5 (mBin ixD (mGet (mVar 0) (.inr "cells")) (mBin iMod (mUn fInt (mLook 3)) (mVar 4)))) mPass)
  (mSeq (mIfS (mAndT (mBl (mBin iLt (mVar 3) (mVar 4))) (mBl (mBin iGe (mUn fAbs (mLook 5)) (mBin iPow (mC (.int 10)) (mC (.int 18)))))) (mSeq (mPut (mVar 0) (.inr "rest") (mBin iDiv (mBin iSub (mUn fAbs (mLook 5)) (mBin iPow (mC (.int 10)) (mC (.int 18)))) (mVar 1)))
  (mRet (mBin iMod (mBin iSub (mUn fAbs (mLook 5)) (mBin iPow (mC (.int 10)) (mC (.int 18)))) (mVar 1)))) mPass)
  (mSeq (mSet 6 (mBin iMod (mUn fInt (mBin fAdd (mBin fAdd (mBin fMul (mBin iMod (mUn fInt (mLook 5)) (mC (.int 4294967231))) (mC (.int 48271))) (mBin fMul (mBin fMul (mC (.int 30269)) (mVar 3)) (mVar 3))) (mC (.int 211)))) (mC (.int 4294967279))))
  (mSeq (mSet 6 (mBin iMod (mUn fInt (mBin fAdd (mBin fAdd (mBin fAdd (mBin fMul (mVar 6) (mVar 6)) (mBin fMul (mC (.int 69069)) (mVar 6))) (mBin fMul (mC (.int 23)) (mVar 3))) (mC (.int 7)))) (mC (.int 4294967291))))
  (mSeq (mSet 6 (mBin iDiv (mBin iMod (mUn fInt (mBin fMul (mVar 6) (mBin fAdd (mVar 6) (mC (.int 32771))))) (mC (.int 4294967197))) (mC (.int 64))))
  (mRet (mBin iMod (mUn fInt (mLook 6)) (mVar 1))))))))))))
def f__law_draw : Fn := fnM 7 m__law_draw
def m__law_pick : MS := (mRet (mIxN 1 (mCall f__law_draw (mCons (mVar 0) (mCons (mUn fLen (mLook 1)) mNil)))))
def f__law_pick : Fn := fnM 2 m__law_pick
def m__law_pen : MS := (mRet (mDict [(.inr "cells", (mFz (mUnF itD (mSlN 0 mNoP (mPart (mC (.int 63))))))), (.inr "begun", (mC (.int 0))), (.inr "rest", (mC (.int 0)))]))
def f__law_pen : Fn := fnM 1 m__law_pen
def m__law_whole : MS := (mRet (mAnd (mUn (fIsi "int") (mLook 0)) (mNot (mUn (fIsi "bool") (mLook 0)))))
def f__law_whole : Fn := fnM 1 m__law_whole
end
def penL (cs : List Int) (b r : Int) : List (Key × D) := [(.inr "cells", .lst (cs.map .int)), (.inr "begun", .int b), (.inr "rest", .int r)]
theorem pen_c (cs : List Int) (b r : Int) : valD (penL cs b r) (.inr "cells") = some (.lst (cs.map .int)) := rfl
theorem pen_b (cs : List Int) (b r : Int) : valD (penL cs b r) (.inr "begun") = some (.int b) := rfl
theorem pen_r (cs : List Int) (b r : Int) : valD (penL cs b r) (.inr "rest") = some (.int r) := rfl
theorem put_b (cs : List Int) (b r x : Int) : putD (penL cs b r) (.inr "begun") (.int x) = penL cs x r := rfl
theorem put_r (cs : List Int) (b r x : Int) : putD (penL cs b r) (.inr "rest") (.int x) = penL cs b x := rfl
theorem pen_l (cs : List Int) (b r : Int) : (penL cs b r).length < 1000 := by show 3 < 1000; decide
theorem draw1 (rs : List Ob) (cs : List Int) (b r m : Int) (hr : 0 < r) (hm : 0 < m) (hb : bits m < 9000) : f__law_draw [.loc 0, .int m] (.dct (penL cs b r) :: rs) = .ok (.int (r % m)) (.dct (penL cs b (r / m)) :: rs) := by
  simp [f__law_draw, fnM, m__law_draw, mSeq, mIfS, mBl, mBin, mGet, mVar, bnd, lift, DL.ret, mC, slots, pen_r, iGt, intF, optB, isBl, hr, mUn, fInt, mSet, mPut, iMod, iDiv, hm, hb, S.put, put_r, pen_l, mRet, endR]
theorem bits_lt {i : Int} {k : Nat} (h0 : 0 ≤ i) (h : i < 2 ^ k) : bits i < k + 1 := by
  unfold bits
  have h2 : i.natAbs < 2 ^ k := by
    have : ((i.natAbs : Nat) : Int) = i := Int.natAbs_of_nonneg h0
    have e : ((2 ^ k : Nat) : Int) = (2 : Int) ^ k := by simp
    omega
  by_cases z : i.natAbs = 0
  · rw [z]; simp
  · have := (Nat.log2_lt z).mpr h2
    omega
theorem mul_ok {i j : Int} (h0 : 0 ≤ i) (h1 : i < 2 ^ 64) (h2 : 0 ≤ j) (h3 : j < 2 ^ 64) : fMul (.int i) (.int j) = some (.int (i * j)) := by
  have a := bits_lt h0 h1
  have b := bits_lt h2 h3
  simp only [fMul, iMul, intF]
  rw [if_pos (by omega)]
/-- the cell that is drawn -/
def cellOf (cs : List Int) (b : Int) : Int := if 0 < (cs.length : Int) then cs[(b % cs.length).toNat]?.getD 0 else 73 * b + 19
def stirOf (c b : Int) : Int :=
  let s1 := (c % 4294967231 * 48271 + 30269 * b * b + 211) % 4294967279
  let s2 := (s1 * s1 + 69069 * s1 + 23 * b + 7) % 4294967291
  s2 * (s2 + 32771) % 4294967197 / 64
theorem mod_rng (a : Int) {m : Int} (h : 0 < m) : 0 ≤ a % m ∧ a % m < m := ⟨Int.emod_nonneg _ (by omega), Int.emod_lt_of_pos _ h⟩
theorem draw2 (rs : List Ob) (cs : List Int) (b m : Int) (h0 : 0 ≤ b) (h1 : b < 2 ^ 30) (hl : cs.length ≤ 1000) (hm : 0 < m) (hb : bits m < 9000) : f__law_draw [.loc 0, .int m] (.dct (penL cs b 0) :: rs) =
    if b < cs.length ∧ 1000000000000000000 ≤ (if cellOf cs b < 0 then -cellOf cs b else cellOf cs b) then .ok (.int (((if cellOf cs b < 0 then -cellOf cs b else cellOf cs b) - 1000000000000000000) % m)) (.dct (penL cs (b + 1) (((if cellOf cs b < 0 then -cellOf cs b else cellOf cs b) - 1000000000000000000) / m)) :: rs)
    else .ok (.int (stirOf (cellOf cs b) b % m)) (.dct (penL cs (b + 1) 0) :: rs) := by
  have k1 := mul_ok (i := 73) (j := b) (by omega) (by omega) (by omega) (by omega)
  have k2 := mul_ok (i := 30269) (j := b) (by omega) (by omega) (by omega) (by omega)
  have k3 := mul_ok (i := 30269 * b) (j := b) (by omega) (by omega) (by omega) (by omega)
  have k4 := mul_ok (i := 23) (j := b) (by omega) (by omega) (by omega) (by omega)
  obtain ⟨a1, a2⟩ := mod_rng (cellOf cs b) (m := 4294967231) (by omega)
  have k5 := mul_ok (i := cellOf cs b % 4294967231) (j := 48271) a1 (by omega) (by omega) (by omega)
  obtain ⟨b1, b2⟩ := mod_rng (cellOf cs b % 4294967231 * 48271 + 30269 * b * b + 211) (m := 4294967279) (by omega)
  generalize hs1 : (cellOf cs b % 4294967231 * 48271 + 30269 * b * b + 211) % 4294967279 = s1 at b1 b2
  have k6 := mul_ok (i := s1) (j := s1) b1 (by omega) b1 (by omega)
  have k7 := mul_ok (i := 69069) (j := s1) (by omega) (by omega) b1 (by omega)
  obtain ⟨c1, c2⟩ := mod_rng (s1 * s1 + 69069 * s1 + 23 * b + 7) (m := 4294967291) (by omega)
  generalize hs2 : (s1 * s1 + 69069 * s1 + 23 * b + 7) % 4294967291 = s2 at c1 c2
  have k8 := mul_ok (i := s2) (j := s2 + 32771) c1 (by omega) (by omega) (by omega)
  have k9 : bits 64 < 9000 := by decide
  have kp : iPow (.int 10) (.int 18) = some (.int (1000000000000000000)) := by simp [iPow, intF]
  have hst : stirOf (cellOf cs b) b = s2 * (s2 + 32771) % 4294967197 / 64 := by
    unfold stirOf
    simp only [hs1, hs2]
  rw [hst]
  generalize hC : cellOf cs b = c at *
  generalize hA : (if c < 0 then -c else c) = ab
  by_cases hz : 0 < cs.length
  · have hc2 : atI (cs.map D.int) (b % cs.length) = some (.int c) := by
      obtain ⟨q1, q2⟩ := mod_rng b (m := cs.length) (by omega)
      have e : ixN (cs.map D.int).length (b % cs.length) = some (b % cs.length).toNat := by
        unfold ixN
        simp only [List.length_map]
        rw [if_pos (by omega), if_pos (by omega)]
      unfold atI
      rw [e]
      have hlt : (b % (cs.length : Int)).toNat < cs.length := by omega
      simp only [Option.bind_some, List.getElem?_map, List.getElem?_eq_getElem hlt, Option.map_some]
      unfold cellOf at hC
      rw [if_pos (by omega), List.getElem?_eq_getElem hlt, Option.getD_some] at hC
      rw [hC]
    by_cases c1 : b < cs.length
    · by_cases c2 : 1000000000000000000 ≤ ab
      · simp [f__law_draw, fnM, m__law_draw, mSeq, mIfS, mBl, mBin, mGet, mVar, bnd, lift, DL.ret, mC, slots, pen_r, pen_b, pen_c, iGt, iLt, iGe, iSub, fAbs, intF, optB, isBl, mUn, fInt, mSet, mPut, iMod, iDiv, hm, hb, S.put, put_r, put_b, pen_l, mRet, endR, mPass, mPar, mCons, mNil, fLen, itD, fAdd, k1, k2, k3, k4, k5, k6, k7, k8, k9, kp, hs1, hs2, ixD, mLook, cur, mAndT, hc2, hz, c1, c2, hA]
      · simp [f__law_draw, fnM, m__law_draw, mSeq, mIfS, mBl, mBin, mGet, mVar, bnd, lift, DL.ret, mC, slots, pen_r, pen_b, pen_c, iGt, iLt, iGe, iSub, fAbs, intF, optB, isBl, mUn, fInt, mSet, mPut, iMod, iDiv, hm, hb, S.put, put_r, put_b, pen_l, mRet, endR, mPass, mPar, mCons, mNil, fLen, itD, fAdd, k1, k2, k3, k4, k5, k6, k7, k8, k9, kp, hs1, hs2, ixD, mLook, cur, mAndT, hc2, hz, c1, c2, hA]
    · simp [f__law_draw, fnM, m__law_draw, mSeq, mIfS, mBl, mBin, mGet, mVar, bnd, lift, DL.ret, mC, slots, pen_r, pen_b, pen_c, iGt, iLt, iGe, iSub, fAbs, intF, optB, isBl, mUn, fInt, mSet, mPut, iMod, iDiv, hm, hb, S.put, put_r, put_b, pen_l, mRet, endR, mPass, mPar, mCons, mNil, fLen, itD, fAdd, k1, k2, k3, k4, k5, k6, k7, k8, k9, kp, hs1, hs2, ixD, mLook, cur, mAndT, hc2, hz, c1, hA]
  · have e0 : cs = [] := by
      cases cs with
      | nil => rfl
      | cons a l => simp at hz
    subst e0
    have hc2 : 73 * b + 19 = c := by
      rw [← hC]; unfold cellOf; simp
    have c1 : ¬ b < 0 := by omega
    simp [f__law_draw, fnM, m__law_draw, mSeq, mIfS, mBl, mBin, mGet, mVar, bnd, lift, DL.ret, mC, slots, pen_r, pen_b, pen_c, iGt, iLt, iGe, iSub, fAbs, intF, optB, isBl, mUn, fInt, mSet, mPut, iMod, iDiv, hm, hb, S.put, put_r, put_b, pen_l, mRet, endR, mPass, mPar, mCons, mNil, fLen, itD, fAdd, k1, k2, k3, k4, k5, k6, k7, k8, k9, kp, hs1, hs2, ixD, mLook, cur, mAndT, hc2, c1, hA]
theorem pen_eq (ns : List Int) (h : ns.length ≤ 63) : f__law_pen [.kl (ns.map .int)] [] = .ok (.loc 0) [.dct (penL ns 0 0)] := by
  have e : cutL (ns.map D.int) none (some 63) = ns.map .int := by
    unfold cutL
    have e1 : HT.sIx (ns.map D.int).length 0 none = 0 := rfl
    have e2 : HT.sIx (ns.map D.int).length (ns.map D.int).length (some 63) = (ns.map D.int).length := by
      simp [HT.sIx]
      omega
    rw [e1, e2, List.drop_zero, Nat.sub_zero, List.take_length]
  simp [f__law_pen, fnM, m__law_pen, mRet, mDict, mVals, mFz, mUnF, mSlN, mNoP, mPart, bnd, DL.ret, mC, slots, cur, lift, cutD, e, itD, endR, penL]
theorem atI_get {xs : List D} {k : Int} (h0 : 0 ≤ k) (h1 : k < xs.length) : ∃ d, atI xs k = some d ∧ d ∈ xs := by
  have hk : k.toNat < xs.length := by omega
  refine ⟨xs[k.toNat], ?_, List.getElem_mem hk⟩
  unfold atI ixN
  rw [if_pos h0, if_pos h1]
  simp [hk]
theorem deq_ints (n : Nat) : ∀ (a b : List Int), deqs (deq n) (a.map .int) (b.map .int) = some (decide (a = b))
  | [], [] => rfl
  | [], b :: r => rfl
  | a :: r, [] => rfl
  | a :: r, b :: q => by
    have e : deq n (.int a) (.int b) = some (a == b) := by cases n <;> rfl
    simp only [List.map_cons, deqs, e, deq_ints n r q]
    by_cases h : a = b
    · subst h; simp
    · simp [h]
theorem bnd_of {α β : Type} {m : S → DL.R α} {k : α → S → DL.R β} {s s' : S} {a : α} (h : m s = .ok a s') : bnd m k s = k a s' := by unfold bnd; rw [h]
theorem seq_nx {a b : MS} {s s' : S} (h : a s = .ok .nx s') : mSeq a b s = b s' := by unfold mSeq; rw [h]
theorem seq_rt {a b : MS} {s s' : S} {d : D} (h : a s = .ok (.rt d) s') : mSeq a b s = .ok (.rt d) s' := by unfold mSeq; rw [h]
theorem wipe_put {s : S} {i : Nat} {x : Slot} (h : s.sl[i]? = some .emp) : wipeS (s.put i x) [i] = s := by
  have hi : i < s.sl.length := (List.getElem?_eq_some_iff.mp h).1
  have e : s.sl[i] = .emp := (List.getElem?_eq_some_iff.mp h).2
  obtain ⟨sl, st⟩ := s
  simp only [wipeS, S.put, List.set_set]
  congr 1
  simp only at e hi
  rw [← e]
  exact List.set_getElem_self hi
theorem wipe_emp {s : S} {i : Nat} (h : s.sl[i]? = some .emp) : wipeS s [i] = s := by
  have e := wipe_put (x := .emp) h
  have e2 : s.put i .emp = s := by
    have hi : i < s.sl.length := (List.getElem?_eq_some_iff.mp h).1
    have e : s.sl[i] = .emp := (List.getElem?_eq_some_iff.mp h).2
    obtain ⟨sl, st⟩ := s
    simp only [S.put]
    congr 1
    simp only at e hi
    rw [← e]
    exact List.set_getElem_self hi
  rw [e2] at e
  exact e
theorem noX_put {s : S} {i : Nat} {d : D} (h : noX s = true) : noX (s.put i (.imm d)) = true := by
  unfold noX S.put at *
  rw [List.all_eq_true] at h ⊢
  intro x hx
  rcases List.mem_or_eq_of_mem_set hx with z | z
  · exact h x z
  · rw [z]
theorem lcs_map {i : Nat} {m : ME} {f : D → D} {s : S} (he : s.sl[i]? = some .emp) (hx : noX s = true) : ∀ (ds acc : List D), (∀ d ∈ ds, m (s.put i (.imm d)) = .ok (f d) (s.put i (.imm d))) → few (acc.length + ds.length) → lcs (gNm i) mYes m [i] acc ds s = .ok (acc ++ ds.map f) s
  | [], acc, _, _ => by simp [lcs]
  | d :: ds, acc, h, hf => by
    have h1 := h d List.mem_cons_self
    have f1 : few (acc.length + 1) := by unfold few at hf ⊢; simp at hf; omega
    have ih := lcs_map he hx ds (acc ++ [f d]) (fun x hx' => h x (List.mem_cons_of_mem _ hx')) (by unfold few at hf ⊢; simp at hf ⊢; omega)
    unfold lcs
    have y : mYes (s.put i (.imm d)) = .ok true (s.put i (.imm d)) := rfl
    simp only [gNm, S.puts, y, if_true, h1, f1, noX_put hx, and_self, wipe_put he]
    show lcs (gNm i) mYes m [i] (acc ++ [f d]) ds s = _
    rw [ih]
    simp
theorem lc_map {i : Nat} {it : MA} {m : ME} {f : D → D} {s0 s : S} {ds : List D} (hit : it s0 = .ok ds s) (he : s.sl[i]? = some .emp) (hx : noX s = true) (h : ∀ d ∈ ds, m (s.put i (.imm d)) = .ok (f d) (s.put i (.imm d))) (hf : few ds.length) : mLc it (gNm i) mYes m [i] s0 = .ok (ds.map f) s := by
  unfold mLc
  rw [bnd_of hit]
  simp only [hx, if_true, wipe_emp he]
  rw [lcs_map he hx ds [] h (by simpa using hf)]
  simp
def rgI (n : Nat) : List Int := (List.range n).map fun (i : Nat) => (i : Int)
theorem rg_eq (n : Nat) : intsD 0 n = (rgI n).map .int := by
  unfold intsD rgI
  simp
theorem rgI_len (n : Nat) : (rgI n).length = n := by simp [rgI]
theorem rgI_mem {n : Nat} {x : Int} : x ∈ rgI n ↔ 0 ≤ x ∧ x < n := by
  unfold rgI
  rw [List.mem_map]
  constructor
  · rintro ⟨a, ha, rfl⟩
    rw [List.mem_range] at ha
    omega
  · intro h
    exact ⟨x.toNat, List.mem_range.mpr (by omega), by omega⟩
/-- a renumbering of size n -/
def Pm (n : Nat) (p : List Int) : Prop := p.Perm (rgI n)
theorem Pm.len {n : Nat} {p : List Int} (h : Pm n p) : p.length = n := h.length_eq.trans (rgI_len n)
def lists (vals : List Int) : Nat → List (List Int)
  | 0 => [[]]
  | n + 1 => vals.flatMap fun a => (lists vals n).map (a :: ·)
end LC
namespace DL
open PySem PySem.Spec PySem.W
/-- the class at C has the function at f under the name -/
structure Own (K : Frag) (C f : Addr) (name : Str) : Prop where
  cl : ∃ cd rest, clsIn K C = some cd ∧ cd.mro = .ref C :: rest
  at_ : findIn K (.ref C) name = some (some (.ref f))
  ty : typeIn K (.ref f) = some (.type "function")
section
variable {K : Frag} {M : Model} {h : Heap} {C f : Addr}
theorem fills_own {nm : String} (X : K.In h) (o : Own K C f (PySem.dunder nm)) : Looks M h (fillsNumberSlot (.ref C) nm) true := by
  obtain ⟨cd, rest, hc, hm⟩ := o.cl
  unfold fillsNumberSlot
  refine Looks.andThen (a := cd.mro) ((looks_clsIn X hc).andThen .now) ?_
  rw [hm, List.anyM]
  refine Looks.andThen (a := true) ?_ .now
  show Looks M h (List.anyM _ [PySem.dunder nm, PySem.dunderR nm]) true
  rw [List.anyM]
  refine Looks.andThen (a := true) ?_ .now
  exact (looks_findIn X o.at_).andThen .now
theorem special_own {name : Str} {a : Addr} {oa : Obj} {od : Option Obj} (X : K.In h) (J : InstAt h a oa C od) (o : Own K C f name) : Looks M h (specialOf (.ref a) name) (some (.ref f)) := by
  unfold specialOf
  exact J.type.andThen (looks_findIn X o.at_)
end
section
variable {prog : Program} {w : World} {A : Around} {E : Value → Shared → Prop} {s : Shared} {K : Frag} {C f a b : Addr} {oa ob : Obj} {da db : Option Obj}
theorem callSpecial_own {name : Str} {args : List Value} {Q : Option Value → Shared → Prop} (X : K.In s.heap) (J : InstAt s.heap a oa C da) (o : Own K C f name)
    (hcall : wpAny (model prog w) A (call (.ref f) (.ref a :: args)) (fun v s' => Q (some v) s') E s) : wpAny (model prog w) A (callSpecial? (.ref a) name args) Q E s := by
  unfold callSpecial?
  refine wpAny_bind ((special_own X J o).here ?_)
  refine wpAny_holding (wpAny_bind ((bind_fn X (.ref a) o.ty).here ?_))
  exact wpAny_bind (wpAny_mono hcall (fun v s' q => wpAny_pure q) fun _ _ e => e)
theorem tryMethod_own {name : Str} {other : Value} {Q : Option Value → Shared → Prop} (X : K.In s.heap) (J : InstAt s.heap a oa C da) (o : Own K C f name)
    (hcall : wpAny (model prog w) A (call (.ref f) [.ref a, other]) (fun v s' => v ≠ .notImplemented ∧ Q (some v) s') E s) : wpAny (model prog w) A (tryMethod (.ref a) name other) Q E s := by
  unfold tryMethod
  refine wpAny_bind (callSpecial_own X J o (wpAny_mono hcall (fun v s' q => ?_) fun _ _ e => e))
  obtain ⟨n, q⟩ := q
  split
  · rename_i h; cases h; exact absurd rfl n
  · rename_i h; cases h
  · rename_i v2 h2 h3
    cases h3
    exact wpAny_pure q
end
end DL
namespace DL
open PySem PySem.Spec L2
def putFD (f : Str) (z : D) : List (Str × D) → List (Str × D)
  | [] => [(f, z)]
  | (g, x) :: r => if g = f then (g, z) :: r else (g, x) :: putFD f z r
theorem repF_put {K : PySem.W.Frag} {G : Gh} {f : Str} {v : V} {z : D} (p : Rep K G v z) : ∀ {fvs : List (Str × V)} {fs : List (Str × D)}, RepF K G fvs fs → RepF K G (putF f v fvs) (putFD f z fs)
  | _, _, .nil => .cons p .nil
  | _, _, .cons (f := g) q r => by
    unfold putF putFD
    by_cases e : g = f
    · rw [if_pos e, if_pos e]; exact .cons p r
    · rw [if_neg e, if_neg e]; exact .cons q (repF_put p r)
theorem repF_len {K : PySem.W.Frag} {G : Gh} : ∀ {fvs : List (Str × V)} {fs : List (Str × D)}, RepF K G fvs fs → fvs.length = fs.length
  | _, _, .nil => rfl
  | _, _, .cons _ r => congrArg Nat.succ (repF_len r)
/-- the fields of the instance of class c at a cell -/
def insAt (c : Str) (s : S) : D → Option (Nat × List (Str × D))
  | .loc n => (match s.st[n]? with
    | some (.ins c' fs) => if c' = c then some (n, fs) else none
    | _ => none)
  | _ => none
theorem insAt_rel {K : PySem.W.Frag} {pn : List (Addr × Obj)} {w : Wd} {c : Str} {v : V} {d : D} {n : Nat} {fs : List (Str × D)} (r : Rel K pn w) (p : Rep K w.G v d) (h : insAt c w.s d = some (n, fs)) : ∃ a dx fvs, v = .ref a ∧ w.G.ad[n]? = some a ∧ w.H a = some (.ins (He.ga K c) dx fvs) ∧ RepF K w.G fvs fs ∧ w.s.st[n]? = some (.ins c fs) ∧ d = .loc n := by
  unfold insAt at h
  split at h
  · rename_i m
    split at h
    · rename_i c' fs' hs
      split at h
      · rename_i e
        cases h
        subst e
        cases p with
        | loc ha =>
          obtain ⟨dx, fvs, e1, e2⟩ := r.st.at_ _ _ _ ha hs
          exact ⟨_, dx, fvs, rfl, ha, e1, e2, hs, rfl⟩
      · cases h
    · cases h
  · cases h
def mFld (c f : Str) (m : ME) : ME := bnd m fun d s => match insAt c s d with
  | some (_, fs) => lift (fs.lookup f) s
  | none => .stuck
def mSetF (c f : Str) (m mv : ME) : MS := bnd mv fun z => bnd m fun d s => match insAt c s d with
  | some (n, fs) => if fs.length < 1000 then .ok .nx { s with st := s.st.set n (.ins c (putFD f z fs)) } else .stuck
  | none => .stuck
section
variable {X : Cx} {W : WX} {e o v : Expr} {m mv : ME} {c f : Str} {pos pos' : Pos}
theorem je_fld (hc : Cls X.K (He.ga X.K c)) (hn : NoAttr X.K (He.ga X.K c) f) (h : JE X W e m) (hb : attributeBase e f X.env (eval e X.env) = eval e X.env := by rfl) : JE X W (.Attribute e f pos) (mFld c f m) := by
  refine PE.imp (pe_fld h hb) fun σ H Q h => ?_
  obtain ⟨w, rfl, rfl, r, h⟩ := h
  refine run r h fun d s' G' v H' g r' p h' => ?_
  cases hi : insAt c s' d with
  | none => rw [hi] at h'; exact h'.elim
  | some q =>
    obtain ⟨n, fs⟩ := q
    rw [hi] at h'
    obtain ⟨a, dx, fvs, rfl, _, e1, e2, _⟩ := insAt_rel (w := { w with G := G', H := H', s := s' }) r' p hi
    cases hl : fs.lookup f with
    | none => simp only [hl] at h'; exact h'.elim
    | some z =>
      simp only [hl] at h'
      obtain ⟨u, h1, h2⟩ := repF_get e2 hl
      exact ⟨a, _, dx, fvs, u, rfl, e1, hc, hn, h1, h' _ _ _ (.refl _) r' h2⟩
theorem js_setF (hc : Cls X.K (He.ga X.K c)) (hn : NoAttr X.K (He.ga X.K c) f) (ho : JE X W o m) (hv : JE X W v mv) (hs : swapsWith v (some (.Attribute o f pos')) pos.line X.env = pure false := by rfl) : JS X W (.Assign [.Attribute o f pos'] v pos) (mSetF c f m mv) := by
  refine PS.imp (ps_fld ho hv hs) fun D σ H h => ?_
  obtain ⟨w, rfl, rfl, r, h⟩ := h
  refine runS r h fun z s1 G1 y1 H1 g1 r1 p1 h1 => ?_
  refine runS r1 h1 fun d s' G' y H' g r' p h' => ?_
  cases hi : insAt c s' d with
  | none => rw [hi] at h'; exact h'.elim
  | some q =>
    obtain ⟨n, fs⟩ := q
    rw [hi] at h'
    dsimp only at h'
    split at h'
    · rename_i hl
      obtain ⟨a, dx, fvs, rfl, ha, e1, e2, _⟩ := insAt_rel (w := { w with G := G', H := H', s := s' }) r' p hi
      refine ⟨a, _, dx, fvs, rfl, e1, hc, hn, by rw [repF_len e2]; exact hl, ?_⟩
      exact h' _ _ _ (.refl _) (r'.cell ha (fun H2 hH => ⟨dx, _, hH, repF_put (p1.mono g) e2⟩) fun φ z => nomatch e1.symm.trans z)
    · exact h'.elim
end
section
variable {X : Cx} {CX : CXT} {k : Nat} {f C : Addr} {fd : FuncData} {ps : List Str} {sp : Sp} {dvs : List V} {ds : List Value} {E : L2.St → XK} {x : Str} {p pos : Pos} {e : Expr} {es : List Expr} {t : TA}
theorem run_makeA {pins : List (Addr × Obj)} {σ : L2.St} {H : Hp} {s : Shared} {Q : VK} {us : List Value} {vs : List V} (M : Mk X.K C f) (F : FnOk X.prog X.w X.K X.mg X.base CX k f fd ps sp) (hr : Room (k + 1) X.A) (hb : Binds X.K fd ps ds) (hd : Vals dvs ds) (hx : PassesAt CX X σ (E σ)) (J : Inv X pins σ H s) (r : Vals vs us)
    (h : ∀ y dy, H y = none → H dy = none → dy ≠ y → sp (.ref y :: (vs ++ dvs)) (upd (upd H dy (.own y)) y (.ins C dy [])) (fun v H2 => v = .non ∧ Q (.ref y) H2) (E σ)) : wpAny (model X.prog X.w) X.A (call (.ref C) us) (EP X pins σ Q) X.xe s := by
  have here := h (s.heap.objs.size + 1) s.heap.objs.size (J.hok.fresh (Nat.le_succ _)) (J.hok.fresh (Nat.le_refl _)) (Nat.ne_of_lt (Nat.lt_succ_self _))
  have J2 := Inv.made (C := C) J
  have all : Vals (V.ref (s.heap.objs.size + 1) :: (vs ++ dvs)) (Value.ref (s.heap.objs.size + 1) :: (us ++ ds)) := .cons rfl (r.append hd)
  have len : (Value.ref (s.heap.objs.size + 1) :: us ++ ds).length = ps.length := (F.len _ _ _ _ here ▸ all.length).symm
  have body := F.run _ X.stack _ _ ⟨Value.ref (s.heap.objs.size + 1) :: us, []⟩ (Value.ref (s.heap.objs.size + 1) :: (us ++ ds)) _ _ (E σ) (hr.make C us []) (J2.env0.make C us []) (hb _ (Value.ref (s.heap.objs.size + 1) :: us) J2.kIn len) all here
  refine wpAny_call (make_map (f := f) J.kIn M.makes M.init (beq_iff_eq.mp M.fn) (codeAny_mono body fun r s' q => ?_))
  cases r with
  | error e => exact hx pins _ _ e s' J2 q
  | ok fl =>
    cases fl with
    | ret u =>
      obtain ⟨v, H', J3, rv, ev, q3⟩ := J2.after q
      subst ev
      exact ⟨rv, ⟨V.ref (s.heap.objs.size + 1), H', J3, rfl, q3⟩⟩
    | next => exact q.elim
    | brk => exact q.elim
    | cont => exact q.elim
def tMakeA (C : Addr) (sp : Sp) (dvs : List V) (E : L2.St → XK) (t : TA) : TE := fun σ H Q => t σ H fun vs H1 => ∀ y dy, H1 y = none → H1 dy = none → dy ≠ y →
  sp (.ref y :: (vs ++ dvs)) (upd (upd H1 dy (.own y)) y (.ins C dy [])) (fun v H2 => v = .non ∧ Q (.ref y) H2) (E σ)
theorem pe_makeA (M : Mk X.K C f) (F : FnOk X.prog X.w X.K X.mg X.base CX k f fd ps sp) (hr : Room (k + 1) X.A) (hg : Gl X x) (hm : X.mg x = some (.ref C)) (hb : Binds X.K fd ps ds) (hd : Vals dvs ds) (hx : ∀ σ, PassesAt CX X σ (E σ))
    (ha : PA X (e :: es) t) (hdb : (x == ("__debug__" : Str)) = false := by decide) (he : starEach (e :: es) X.env = (false, eval e X.env) :: starEach es X.env := by rfl) (hpl : (backTo pos (starEach es X.env)).any (·.1) = false := by rfl) :
    PE X (.Call (.Name x p) (e :: es) [] pos) (tMakeA C sp dvs E t) := by
  refine ⟨fun pins s σ H Q J h => wpAny_Call_Name_kw (ld_glob J hg hm ?_ hdb)⟩
  refine PySem.W.callWith_K (h₀ := X.base) J.ok.mod.kin M.kp (thn (ha.run pos pins s σ H _ J h) fun us s1 hh => ?_) he hpl
  obtain ⟨vs, H1, J1, r, q⟩ := hh
  exact ⟨J1.kIn, run_makeA M F hr hb hd (hx σ) J1 r q⟩
end
def mMake (c : Str) (fi : Fn) (m : MA) : ME := bnd m fun ds s => match fi (.loc s.st.length :: ds) (s.st ++ [.ins c []]) with
  | .ok .non st' => .ok (.loc s.st.length) { s with st := st' }
  | .ok _ _ => .stuck
  | .exc x st' => .exc x { s with st := st' }
  | .stuck => .stuck
section
variable {X : Cx} {W : WX} {k : Nat} {f : Addr} {fd : FuncData} {ps : List Str} {fi : Fn} {x c : Str} {p pos : Pos} {e : Expr} {es : List Expr} {m : MA}
theorem je_make (M : Mk X.K (He.ga X.K c) f) (F : FnOk X.prog X.w X.K X.mg X.base (L2N.CX X.prog X.w) k f fd ps (spF X.K ps.length fi)) (hr : Room (k + 1) X.A) (tk : L2N.Takes X W) (hg : Gl X c) (hm : X.mg c = some (.ref (He.ga X.K c))) (hb : Binds X.K fd ps [])
    (ha : JA X W (e :: es) m) (hl : (e :: es).length + 1 = ps.length := by rfl) (hdb : (c == ("__debug__" : Str)) = false := by decide) (he : starEach (e :: es) X.env = (false, eval e X.env) :: starEach es X.env := by rfl) (hpl : (backTo pos (starEach es X.env)).any (·.1) = false := by rfl) :
    JE X W (.Call (.Name c p) (e :: es) [] pos) (mMake c fi m) := by
  refine PE.imp (pe_makeA (E := WE W) M F hr hg hm hb Paired.nil (fun σ => L2N.passAt tk σ) ha.pa hdb he hpl) fun σ H Q h => ?_
  obtain ⟨w, rfl, rfl, r, h⟩ := h
  refine run' r h fun as s' G' vs H' hm2 g r' q h' => ?_
  intro y dy hy hdy hne
  rw [List.append_nil]
  have r1 := r'.alloc (o := .own y) hdy
  have hy1 : upd H' dy (.own y) y = none := (upd_ne (Ne.symm hne)).trans hy
  obtain ⟨g2, r2, p2⟩ := Rel.newCell (w := { w with G := G', H := upd H' dy (.own y), s := s' }) (o := .ins c []) (u := .ins (He.ga X.K c) dy []) r1 hy1 (fun G3 H3 g3 hH => ⟨dy, [], hH, .nil⟩)
  refine call_run (W := W) (fn := fi) (w := { w with G := { G' with ad := G'.ad ++ [y] }, H := upd (upd H' dy (.own y)) y (.ins (He.ga X.K c) dy []), s := { s' with st := s'.st ++ [.ins c []] } }) (as := .loc s'.st.length :: as) r2 (.cons p2 (q.mono g2)) (by rw [List.length_cons, q.length, ha.len _ _ _ hm2, ← hl]) ?_
  dsimp only
  cases hf : fi (.loc s'.st.length :: as) (s'.st ++ [.ins c []]) with
  | ok d st' =>
    rw [hf] at h'
    intro G3 v H3 g3 r3 p3
    cases d with
    | non =>
      cases p3
      exact ⟨rfl, h' G3 _ H3 (g2.trans g3) r3 (p2.mono g3)⟩
    | _ => exact h'.elim
  | exc y2 st' =>
    rw [hf] at h'
    exact fun G3 c3 d3 H3 g3 r3 p3 => h' G3 c3 d3 H3 (g2.trans g3) r3 p3
  | stuck =>
    rw [hf] at h'
    exact h'.elim
end
end DL
namespace DL
open PySem PySem.Spec L2
theorem relV_ne {v : V} {u : Value} (r : RelV v u) : u ≠ .notImplemented := by
  cases v <;> first | (obtain ⟨t, rfl⟩ := r; exact nofun) | (cases r; exact nofun)
section
variable {X : Cx} {CX : CXT} {k : Nat} {f C : Addr} {fd : FuncData} {ps : List Str} {sp : Sp} {E : L2.St → XK} {a b : Expr} {ta tb : TE} {pos : Pos}
theorem inst_of {pins : List (Addr × Obj)} {σ : L2.St} {H : Hp} {s : Shared} {y dx : Addr} {fs : List (Str × V)} (J : Inv X pins σ H s) (e : H y = some (.ins C dx fs)) : ∃ od, PySem.W.InstAt s.heap y (PySem.W.instObj C dx) C (some od) := by
  obtain ⟨mA, O, _⟩ := ins_get J.hok e
  obtain ⟨od, h, _⟩ := O.look
  exact ⟨od, h⟩
end
def mOp2 (c : Str) (fn : Fn) (a b : ME) : ME := bnd a fun x => bnd b fun y s => match insAt c s x, insAt c s y with
  | some _, some _ => outR s (fn [x, y] s.st)
  | _, _ => .stuck
def mOp1 (c : Str) (fn : Fn) (a : ME) : ME := bnd a fun x s => match insAt c s x with
  | some _ => outR s (fn [x] s.st)
  | none => .stuck
/-- x op= e, x in slot i -/
def mAugO (i : Nat) (c : Str) (fn : Fn) (m : ME) : MS := fun s => match s.sl[i]? with
  | some (.imm x) => bnd m (fun y s => match s.sl[i]? with
    | some (.imm x') => (match insAt c s x' with
      | some _ => (match fn [x', y] s.st with
        | .ok z st' => .ok .nx ({ s with st := st' }.put i (.imm z))
        | _ => .stuck)
      | none => .stuck)
    | _ => .stuck) s
  | _ => .stuck
structure IsC (K : PySem.W.Frag) (c : Str) : Prop where
  cl : Cls K (He.ga K c)
  ty : ∀ H a dx fs, H a = some (.ins (He.ga K c) dx fs) → TyX K H (.ref a) (.ref (He.ga K c))
  yes : PySem.W.kitOne K (.ref (He.ga K c)) (.ref (He.ga K c)) = some true
  no : ∀ t ∈ tysL, PySem.W.kitOne K (.type t) (.ref (He.ga K c)) = some false
def mIsC (c : Str) (m : ME) : ME := bnd m fun d s => match insAt c s d with
  | some _ => .ok (.bl true) s
  | none => (match tyD d with
    | some _ => .ok (.bl false) s
    | none => .stuck)
end DL
namespace DL
open PySem PySem.Spec PyProof.Rows L2
def zip3D : List D → List D → List D → List D
  | x :: xs, y :: ys, z :: zs => .tup [x, y, z] :: zip3D xs ys zs
  | _, _, _ => []
/-- the items of a list -/
def lsD (d : D) : Option (List D) := if isTup d then none else itD d
theorem rep_ls {K : PySem.W.Frag} {G : Gh} {v : V} {d : D} {ds : List D} (p : Rep K G v d) (h : lsD d = some ds) : ∃ a vs, v = .ref a ∧ SqL K G.F a vs ∧ Reps K G vs ds := by
  unfold lsD at h
  split at h
  · cases h
  · rename_i q
    exact rep_sq p h (by simpa using q)
def mZip3 (m : MA) : MA := bnd m fun ds s => match ds with
  | [a, b, c] => (match lsD a, lsD b, lsD c with
    | some x, some y, some z => .ok (zip3D x y z) s
    | _, _, _ => .stuck)
  | _ => .stuck
end DL
namespace DL
open PySem PySem.Spec PyProof.Rows L2
def insU (x : Int) : List Int → List Int
  | [] => [x]
  | y :: r => if x < y then x :: y :: r else if x = y then y :: r else y :: insU x r
def srtU (ns : List Int) : List Int := ns.foldr insU []
def fSrtU : D → Option (List D)
  | .lst ds => (match intsD? ds with
    | some ns => if ns.length ≤ 4000 ∧ (srtU ns).length < 64 then some ((srtU ns).map D.int) else none
    | none => none)
  | _ => none
end DL
namespace DL
open PySem PySem.Spec L2
theorem noX_w {s : S} {vs : List Nat} (hx : noX s = true) : noX (wipeS s vs) = true := by
  refine List.all_eq_true.mpr fun x hxm => ?_
  obtain ⟨i, hi⟩ := List.mem_iff_getElem?.mp hxm
  by_cases hv : i ∈ vs
  · rw [wipeS_emp hv hi]
  · have key : ∀ (vs : List Nat), i ∉ vs → (wipeS s vs).sl[i]? = s.sl[i]? := by
      intro vs
      induction vs with
      | nil => intro _; rfl
      | cons v vs ih =>
        intro hn
        simp only [List.mem_cons, not_or] at hn
        show ((wipeS s vs).sl.set v .emp)[i]? = _
        rw [List.getElem?_set_ne (Ne.symm hn.1), ih hn.2]
    rw [key vs hv] at hi
    exact List.all_eq_true.mp hx _ (List.mem_of_getElem? hi)
theorem repU_ix {K : PySem.W.Frag} {G : Gh} {vs : List Nat} : ∀ {lv : List (Nat × V)} {l : List (Nat × D)}, RepU K G lv l → (∀ q ∈ l, q.1 ∈ vs) → ∀ p ∈ lv, p.1 ∈ vs
  | _, _, .nil, _, p, hp => by cases hp
  | _, _, .cons a r, h, p, hp => by
    rcases List.mem_cons.mp hp with z | z
    · subst z; rw [a.1]; exact h _ List.mem_cons_self
    · exact repU_ix r (fun q hq => h q (List.mem_cons_of_mem _ hq)) p z
theorem wipe_in {i : Nat} : ∀ (vs : List Nat) (σ : L2.St), i ∈ vs → i < σ.length → (L2.wipe σ vs)[i]? = some none
  | [], _, h, _ => by cases h
  | v :: vs, σ, h, hl => by
    unfold L2.wipe
    by_cases e : v = i
    · subst e
      rw [List.getElem?_set_self (by rw [wipe_length]; exact hl)]
    · rw [List.getElem?_set_ne e]
      rcases List.mem_cons.mp h with z | z
      · exact (e z.symm).elim
      · exact wipe_in vs σ z hl
theorem wipe_sub {σ : L2.St} {vs vs1 : List Nat} (h : ∀ i ∈ vs1, i ∈ vs) : L2.wipe (L2.wipe σ vs1) vs = L2.wipe σ vs := by
  apply List.ext_getElem?
  intro i
  by_cases hi : i ∈ vs
  · by_cases hl : i < σ.length
    · rw [wipe_in vs _ hi (by rw [wipe_length]; exact hl), wipe_in vs σ hi hl]
    · rw [List.getElem?_eq_none (by rw [wipe_length, wipe_length]; omega), List.getElem?_eq_none (by rw [wipe_length]; omega)]
  · rw [wipe_out hi, wipe_out hi, wipe_out fun z => hi (h i z)]
section
variable {K : PySem.W.Frag} {g1 : MG} {t1 : MT} {m : ME} {ix1 vs1 : List Nat} {J : It}
/-- the second clause's loop -/
theorem lc_inner {w : Wd} {L : Addr} {us : List V} {acc accF ds : List D} {l : List (Addr × HO)} {sF : S} {Nx : Hp → Prop} (hix : ∀ i ∈ ix1, i ∈ vs1) (hgx : ∀ d l, g1 d = some l → ∀ p ∈ l, p.1 ∈ ix1) (r : Rel K [] w) (he : w.pr = (L, .lst us) :: l) (hl : ∀ q ∈ l, q.1 ≠ L)
    (rs : Reps K w.G us acc) (I : ItR K J w.G ds) (hx : noX w.s = true) (hok : lcs g1 t1 m vs1 acc ds (wipeS w.s vs1) = .ok accF sF)
    (hend : ∀ G3 s3 us3 H3, w.G.le G3 → Rel K [] { w with G := G3, σ := L2.wipe w.σ vs1, H := H3, s := s3, pr := (L, .lst us3) :: l } → Reps K G3 us3 accF → noX s3 = true → s3 = sF → Nx H3) :
    ∃ W1 : Nat → Nat → Hp → Prop, (∃ m, W1 0 m w.H) ∧ ∀ j k H, W1 j k H →
      (J.stop j H ∧ Nx H) ∨ (J.go j H ∧ ∃ Nx1 : Hp → Prop, (∀ H', Nx1 H' → ∃ k', k' < k ∧ W1 (j + 1) k' H') ∧ ∀ x H', J.yld j H x H' → tTg K g1 x (wipe w.σ vs1) H' fun σ3 H5 => wipe σ3 vs1 = wipe w.σ vs1 ∧ tG K [] WF AB t1 σ3 H5 fun b H6 =>
        if b = true then tG K [] WF (AR K) m σ3 H6 fun y H7 => ∃ acc, H7 L = some (.lst acc) ∧ acc.length < sizeLine ∧ Nx1 (upd H7 L (.lst (acc ++ [y]))) else Nx1 H6) := by
  have r0 : Rel K [] { w with G := w.G, σ := L2.wipe w.σ vs1, H := w.H, s := wipeS w.s vs1, pr := (L, .lst us) :: l } := by
    have z := Rel.wipe r vs1
    rw [← he]
    exact z
  refine ⟨fun i mm H => mm = ds.length - i ∧ i ≤ ds.length ∧ ∃ (G2 : Gh) (s2 : S) (acc2 : List D) (us2 : List V), w.G.le G2 ∧ Rel K [] { w with G := G2, σ := L2.wipe w.σ vs1, H := H, s := wipeS s2 vs1, pr := (L, .lst us2) :: l } ∧ Reps K G2 us2 acc2 ∧
    noX (wipeS s2 vs1) = true ∧ lcs g1 t1 m vs1 acc2 (ds.drop i) (wipeS s2 vs1) = .ok accF sF, ⟨_, rfl, Nat.zero_le _, w.G, w.s, acc, us, .refl _, r0, rs, noX_w hx, hok⟩, ?_⟩
  rintro i mm H2 ⟨rfl, hi, G2, s2, acc2, us2, g2, r2, rs2, hx2, h2⟩
  by_cases hlt : i < ds.length
  · have hd : ds[i]? = some ds[i] := List.getElem?_eq_getElem hlt
    have ed : ds.drop i = ds[i] :: ds.drop (i + 1) := List.drop_eq_getElem_cons hlt
    rw [ed] at h2
    refine .inr ⟨I.go _ _ r2 g2 i hlt, fun H => ∃ (G2 : Gh) (s2 : S) (acc2 : List D) (us2 : List V), w.G.le G2 ∧ Rel K [] { w with G := G2, σ := L2.wipe w.σ vs1, H := H, s := wipeS s2 vs1, pr := (L, .lst us2) :: l } ∧ Reps K G2 us2 acc2 ∧
      noX (wipeS s2 vs1) = true ∧ lcs g1 t1 m vs1 acc2 (ds.drop (i + 1)) (wipeS s2 vs1) = .ok accF sF, fun H' hw => ⟨_, by omega, rfl, hlt, hw⟩, fun x H3 y => ?_⟩
    obtain ⟨G3, g3, r3, p3⟩ := I.yld _ _ r2 g2 i _ x H3 hd y
    unfold lcs at h2
    cases hl2 : g1 ds[i] with
    | none => simp only [hl2] at h2; cases h2
    | some ll =>
      simp only [hl2] at h2
      refine ⟨[], _, ds[i], ll, rfl, r3, p3, hl2, fun lv hv => ?_⟩
      have hlv : ∀ p ∈ lv, p.1 ∈ vs1 := repU_ix hv fun q hq => hix _ (hgx _ _ hl2 q hq)
      have wσ : L2.wipe (upds (L2.wipe w.σ vs1) lv) vs1 = L2.wipe w.σ vs1 := by rw [wipe_upds hlv, wipe_wipe]
      refine ⟨wσ, ?_⟩
      have r4 := Rel.sets r3 hv
      cases ht : t1 ((wipeS s2 vs1).puts ll) with
      | exc y s5 => simp only [ht] at h2; cases h2
      | stuck => simp only [ht] at h2; cases h2
      | ok b s5 =>
        simp only [ht] at h2
        refine ⟨_, rfl, rfl, r4, ?_⟩
        show okG K [] WF AB _ _ (t1 ((wipeS s2 vs1).puts ll))
        rw [ht]
        intro G5 b5 H5 g5 r5 e5
        subst e5
        cases b5 with
        | false =>
          simp only [Bool.false_eq_true, if_false] at h2 ⊢
          split at h2
          · rename_i hx5
            have r6 := Rel.wipe r5 vs1
            dsimp only at r6
            rw [wσ] at r6
            exact ⟨G5, s5, acc2, us2, (g2.trans g3).trans g5, r6, rs2.mono (g3.trans g5), noX_w hx5, h2⟩
          · cases h2
        | true =>
          simp only [if_true] at h2 ⊢
          cases hm : m s5 with
          | exc y s6 => simp only [hm] at h2; cases h2
          | stuck => simp only [hm] at h2; cases h2
          | ok z s6 =>
            simp only [hm] at h2
            split at h2
            · rename_i hf
              refine ⟨_, rfl, rfl, r5, ?_⟩
              show okG K [] WF (AR K) _ _ (m s5)
              rw [hm]
              intro G6 y H6 g6 r6 p6
              have hH : H6 L = some (.lst us2) := (r6.pr (L, .lst us2) List.mem_cons_self).1
              refine ⟨us2, hH, ?_, ?_⟩
              · rw [rs2.length]; exact hf.1.line
              · have r7 := Rel.prPut (o' := .lst (us2 ++ [y])) r6 rfl hl
                have r8 := Rel.wipe r7 vs1
                dsimp only at r8
                rw [wσ] at r8
                exact ⟨G6, s6, acc2 ++ [z], us2 ++ [y], ((g2.trans g3).trans g5).trans g6, r8, (rs2.mono ((g3.trans g5).trans g6)).append (.cons p6 .nil), noX_w hf.2, h2⟩
            · cases h2
  · have e : i = ds.length := by omega
    subst e
    rw [List.drop_length] at h2
    unfold lcs at h2
    cases h2
    exact .inl ⟨I.stop _ _ r2 g2 _ (Nat.le_refl _), hend G2 _ us2 H2 g2 r2 rs2 hx2 rfl⟩
end
/-- the turns of the first clause -/
def lcs2 (g : MG) (t : MT) (it1 : MA) (g1 : MG) (t1 : MT) (m : ME) (vs vs1 : List Nat) : List D → List D → MA
  | acc, [] => fun s => .ok acc s
  | acc, d :: ds => fun s => match g d with
    | none => .stuck
    | some l => match t (s.puts l) with
      | .ok b s1 => if b then (match it1 s1 with
          | .ok es s2 => if noX s2 = true then (match lcs g1 t1 m vs1 acc es (wipeS s2 vs1) with
            | .ok acc' s3 => lcs2 g t it1 g1 t1 m vs vs1 acc' ds (wipeS s3 vs)
            | _ => .stuck) else .stuck
          | _ => .stuck) else if noX s1 = true then lcs2 g t it1 g1 t1 m vs vs1 acc ds (wipeS s1 vs) else .stuck
      | _ => .stuck
def mLc2 (it : MA) (g : MG) (t : MT) (it1 : MA) (g1 : MG) (t1 : MT) (m : ME) (vs vs1 : List Nat) : MA := bnd it fun ds s => if noX s = true then lcs2 g t it1 g1 t1 m vs vs1 [] ds (wipeS s vs) else .stuck
section
variable {X : Cx} {W : WX} {elt tg iter tg1 iter1 : Expr} {ifs ifs1 : List Expr} {scope : Scope} {own : List (Str × Nat)} {pos : Pos} {it it1 : MA} {g g1 : MG} {ix ix1 vs1 : List Nat} {t t1 : MT} {m : ME}
theorem lc2_run {σ : L2.St} {H : Hp} {Q : VK} {vs : List Nat} (hv1 : ∀ i ∈ vs1, i ∈ vs) (hix : ∀ i ∈ ix, i ∈ vs) (hgx : ∀ d l, g d = some l → ∀ p ∈ l, p.1 ∈ ix) (hix1 : ∀ i ∈ ix1, i ∈ vs1) (hgx1 : ∀ d l, g1 d = some l → ∀ p ∈ l, p.1 ∈ ix1) (h : tG X.K X.pn W (AF X.K) (mLc2 it g t it1 g1 t1 m vs vs1) σ H Q) :
    tLc2 (tG X.K X.pn W (AI X.K) it) (tTg X.K g) (tG X.K [] WF AB t) (tG X.K [] WF (AI X.K) it1) (tTg X.K g1) (tG X.K [] WF AB t1) (tG X.K [] WF (AR X.K) m) vs vs1 σ H Q := by
  obtain ⟨w, rfl, rfl, r, h⟩ := h
  refine run r h fun ds s' G' J H' g' r' I h' => ?_
  intro L hL
  split at h'
  · rename_i hx
    have r0 : Rel X.K [] { w with G := G', σ := L2.wipe w.σ vs, H := upd H' L (.lst []), s := wipeS s' vs, pr := (L, .lst []) :: w.pr } := Rel.prPush (w := { w with G := G', σ := L2.wipe w.σ vs, H := H', s := wipeS s' vs }) (Rel.wipe (Rel.pn r' hx) vs) hL
    have hl : ∀ q ∈ w.pr, q.1 ≠ L := fun q hq => Rel.noP r' hL q hq
    refine ⟨fun i mm H => mm = ds.length - i ∧ i ≤ ds.length ∧ ∃ (G2 : Gh) (s2 : S) (acc : List D) (us : List V), G'.le G2 ∧ Rel X.K [] { w with G := G2, σ := L2.wipe w.σ vs, H := H, s := wipeS s2 vs, pr := (L, .lst us) :: w.pr } ∧ Reps X.K G2 us acc ∧
      noX (wipeS s2 vs) = true ∧ okG X.K X.pn W (AF X.K) { w with G := G2, H := H, s := wipeS s2 vs } Q (lcs2 g t it1 g1 t1 m vs vs1 acc (ds.drop i) (wipeS s2 vs)), ⟨_, rfl, Nat.zero_le _, G', s', [], [], .refl _, r0, .nil, noX_w hx, okG.up (w := { w with G := G', H := H', s := s' }) h' (.refl _)⟩, ?_⟩
    rintro i mm H2 ⟨rfl, hi, G2, s2, acc, us, g2, r2, rs, hx2, h2⟩
    by_cases hlt : i < ds.length
    · have hd : ds[i]? = some ds[i] := List.getElem?_eq_getElem hlt
      have ed : ds.drop i = ds[i] :: ds.drop (i + 1) := List.drop_eq_getElem_cons hlt
      rw [ed] at h2
      refine .inr ⟨I.go _ _ r2 g2 i hlt, fun H => ∃ (G2 : Gh) (s2 : S) (acc : List D) (us : List V), G'.le G2 ∧ Rel X.K [] { w with G := G2, σ := L2.wipe w.σ vs, H := H, s := wipeS s2 vs, pr := (L, .lst us) :: w.pr } ∧ Reps X.K G2 us acc ∧
          noX (wipeS s2 vs) = true ∧ okG X.K X.pn W (AF X.K) { w with G := G2, H := H, s := wipeS s2 vs } Q (lcs2 g t it1 g1 t1 m vs vs1 acc (ds.drop (i + 1)) (wipeS s2 vs)), fun H' hw => ⟨_, by omega, rfl, hlt, hw⟩, fun x H3 y => ?_⟩
      obtain ⟨G3, g3, r3, p3⟩ := I.yld _ _ r2 g2 i _ x H3 hd y
      unfold lcs2 at h2
      cases hl2 : g ds[i] with
      | none => simp only [hl2] at h2; exact h2.elim
      | some l =>
        simp only [hl2] at h2
        refine ⟨[], _, ds[i], l, rfl, r3, p3, hl2, fun lv hv => ?_⟩
        have hlv : ∀ p ∈ lv, p.1 ∈ vs := repU_ix hv fun q hq => hix _ (hgx _ _ hl2 q hq)
        have wσ : L2.wipe (upds (L2.wipe w.σ vs) lv) vs = L2.wipe w.σ vs := by rw [wipe_upds hlv, wipe_wipe]
        refine ⟨wσ, ?_⟩
        have r4 := Rel.sets r3 hv
        cases ht : t ((wipeS s2 vs).puts l) with
        | exc y s5 => simp only [ht] at h2; exact h2.elim
        | stuck => simp only [ht] at h2; exact h2.elim
        | ok b s5 =>
          simp only [ht] at h2
          refine ⟨_, rfl, rfl, r4, ?_⟩
          show okG X.K [] WF AB _ _ (t ((wipeS s2 vs).puts l))
          rw [ht]
          intro G5 b5 H5 g5 r5 e5
          subst e5
          cases b5 with
          | false =>
            simp only [Bool.false_eq_true, if_false] at h2 ⊢
            split at h2
            · rename_i hx5
              have r6 := Rel.wipe r5 vs
              dsimp only at r6
              rw [wσ] at r6
              exact ⟨G5, s5, acc, us, (g2.trans g3).trans g5, r6, rs.mono (g3.trans g5), noX_w hx5, okG.up (w := { w with G := G2, H := H2, s := wipeS s2 vs }) h2 (g3.trans g5)⟩
            · exact h2.elim
          | true =>
            simp only [if_true] at h2 ⊢
            cases hi1 : it1 s5 with
            | exc y s6 => simp only [hi1] at h2; exact h2.elim
            | stuck => simp only [hi1] at h2; exact h2.elim
            | ok es s6 =>
              simp only [hi1] at h2
              split at h2
              · rename_i hx6
                cases hq : lcs g1 t1 m vs1 acc es (wipeS s6 vs1) with
                | exc y s7 => simp only [hq] at h2; exact h2.elim
                | stuck => simp only [hq] at h2; exact h2.elim
                | ok acc7 s7 =>
                  simp only [hq] at h2
                  refine ⟨_, rfl, rfl, r5, ?_⟩
                  show okG X.K [] WF (AI X.K) _ _ (it1 s5)
                  rw [hi1]
                  intro G6 J1 H6 g6 r6 I6
                  refine lc_inner (w := { w with G := G6, σ := upds (L2.wipe w.σ vs) lv, H := H6, s := s6, pr := (L, .lst us) :: w.pr }) hix1 hgx1 r6 rfl hl (rs.mono ((g3.trans g5).trans g6)) I6 hx6 hq fun G8 s8 us8 H8 g8 r8 rs8 hx8 e8 => ?_
                  subst e8
                  have r9 := Rel.wipe r8 vs
                  dsimp only at r9
                  rw [wipe_sub hv1, wσ] at r9
                  exact ⟨G8, _, acc7, us8, (((g2.trans g3).trans g5).trans g6).trans g8, r9, rs8, noX_w hx8, okG.up (w := { w with G := G2, H := H2, s := wipeS s2 vs }) h2 (((g3.trans g5).trans g6).trans g8)⟩
              · exact h2.elim
    · have e : i = ds.length := by omega
      subst e
      rw [List.drop_length] at h2
      refine .inl ⟨I.stop _ _ r2 g2 _ (Nat.le_refl _), ?_⟩
      obtain ⟨r9, a9⟩ := Rel.prPop r2 rfl hl rs
      have r10 := Rel.unwipe (w := { w with G := G2, H := H2 }) (σ := w.σ) (s := s2) (vs := vs) r9
      have a10 : AF X.K { w with G := G2, H := H2, s := wipeS s2 vs } (.ref L) acc := by
        obtain ⟨a, us', e1, e2, e3, e4, e5, e6, e7, e8⟩ := a9
        refine ⟨a, us', e1, e2, e3, e4, e5, e6, fun i es q1 q2 => ?_, e8⟩
        have : i ∉ vs := fun hi => by cases wipeS_emp hi q1
        exact e7 i es q1 ((wipe_out this).trans q2)
      exact h2 G2 _ H2 (.refl _) (Rel.pn r10 hx2) a10
  · exact h'.elim
end
end DL
namespace DL
open PySem PySem.Spec L2
def mMin2 (m : MA) : ME := bnd m fun ds s => match ds with
  | [.int i, .int j] => .ok (.int (if j < i then j else i)) s
  | _ => .stuck
theorem je_min2 {X : Cx} {W : WX} {a b : Expr} {m : MA} {p pos : Pos} (hc : X.calm = true) (hg : Gl X "min") (hm : X.mg "min" = none) (h : JA X W [a, b] m) (h1 : starEach [a, b] X.env = (false, eval a X.env) :: starEach [b] X.env := by rfl) (h2 : (backTo pos (starEach [b] X.env)).any (·.1) = false := by rfl) :
    JE X W (.Call (.Name "min" p) [a, b] [] pos) (mMin2 m) := by
  refine PE.imp (pe_callB (call_min2 hc) hg hm rfl h.pa (by decide) (by decide) h1 h2) fun σ H Q h => ?_
  obtain ⟨w, rfl, rfl, r, h⟩ := h
  refine run' r h fun ds s' G' vs H' hm2 g r' q h' => ?_
  split at h'
  · rename_i i j
    cases q with
    | cons p1 q =>
      cases q with
      | cons p2 q =>
        cases q
        cases p1
        cases p2
        exact ⟨i, j, rfl, fin r' h' (.int _)⟩
  · exact h'.elim
theorem kit2 {K : PySem.W.Frag} {a b c : String} (ha : a ∈ tysL) (hb : b ∈ tysR) (hc : c ∈ tysR) : PySem.W.kitAny K (.type a) [.type b, .type c] = some ([b, c].any (subT a)) := by
  unfold PySem.W.kitAny
  rw [kit_tb ha hb]
  cases h : subT a b with
  | true => simp [h]
  | false =>
    dsimp only
    unfold PySem.W.kitAny
    rw [kit_tb ha hc]
    cases h2 : subT a c with
    | true => simp [h, h2]
    | false => simp [h, h2, PySem.W.kitAny]
theorem je_isi2 {X : Cx} {W : WX} {e : Expr} {m : ME} {x y : Str} {T U : String} {p pos q q2 tp : Pos} {kk : Nat} (hT : T ∈ tysR) (hU : U ∈ tysR) (hg : Gl X "isinstance") (hm : X.mg "isinstance" = none) (hgT : Gl X x) (hmT : X.mg x = none) (hvT : bootBuiltins x = some (.type T)) (hgU : Gl X y) (hmU : X.mg y = none) (hvU : bootBuiltins y = some (.type U)) (h : JE X W e m)
    (hn : x ≠ "__name__" := by decide) (hdb : (x == ("__debug__" : Str)) = false := by decide) (hn2 : y ≠ "__name__" := by decide) (hdb2 : (y == ("__debug__" : Str)) = false := by decide)
    (t1 : starEach [.Name x q, .Name y q2] X.env = (false, eval (.Name x q) X.env) :: starEach [.Name y q2] X.env := by rfl) (t2 : starEach [.Name y q2] X.env = (false, eval (.Name y q2) X.env) :: starEach [] X.env := by rfl)
    (hs : starEach [e, .Tuple [.Name x q, .Name y q2] kk tp] X.env = (false, eval e X.env) :: starEach [.Tuple [.Name x q, .Name y q2] kk tp] X.env := by rfl) (hs2 : starEach [.Tuple [.Name x q, .Name y q2] kk tp] X.env = (false, eval (.Tuple [.Name x q, .Name y q2] kk tp) X.env) :: starEach [] X.env := by rfl) (h2 : (backTo pos (starEach [.Tuple [.Name x q, .Name y q2] kk tp] X.env)).any (·.1) = false := by rfl) :
    JE X W (.Call (.Name "isinstance" p) [e, .Tuple [.Name x q, .Name y q2] kk tp] [] pos) (mUn (fIsiA [T, U]) m) := by
  refine PE.imp (pe_callB call_isiT hg hm rfl (pa_cons h (pa_cons (pe_tup (pa_cons (pe_tyN hgT hmT hvT hn hdb) (pa_cons (pe_tyN hgU hmU hvU hn2 hdb2) pa_nil t2) t1)) pa_nil hs2) hs) (by decide) (by decide) hs h2) fun σ H Q h => ?_
  obtain ⟨w, rfl, rfl, r, h⟩ := h
  refine run r h fun d s' G' v H' g r' pp h' => ?_
  unfold fIsiA at h'
  cases ht : tyD d with
  | none => rw [ht] at h'; exact h'.elim
  | some t =>
    rw [ht] at h'
    refine ⟨by show 2 ≤ sizeLine; decide, fun tpA hp => ?_⟩
    have r2 := r'.alloc (o := .tup [.ty T, .ty U]) hp
    exact ⟨v, tpA, [.ty T, .ty U], .type t, [.type T, .type U], _, rfl, upd_same, .cons (.ty T) (.cons (.ty U) .nil), tyx_of (w := { w with G := G', H := upd H' tpA _, s := s' }) r2 (.inl pp) ht, kit2 (tyD_in ht) hT hU, h' _ _ _ (.refl _) r2 (.bl _)⟩
def ownB (c m : Str) (K : PySem.W.Frag) : Bool := (match PySem.W.clsIn K (He.ga K c) with
  | some cd => (match cd.mro with
    | v :: _ => decide (v = .ref (He.ga K c))
    | [] => false)
  | none => false) && (He.eqO (PySem.W.findIn K (.ref (He.ga K c)) m) (some (some (.ref (He.ma K (He.ga K c) m)))) && decide (PySem.W.typeIn K (.ref (He.ma K (He.ga K c) m)) = some (.type "function")))
theorem ownB_ok {K : PySem.W.Frag} {c m : Str} (h : ownB c m K = true) : Own K (He.ga K c) (He.ma K (He.ga K c) m) m := by
  obtain ⟨h1, h⟩ := He.ba h
  obtain ⟨h2, h3⟩ := He.ba h
  refine ⟨?_, He.eqO_ok h2, of_decide_eq_true h3⟩
  split at h1
  · rename_i cd hc
    split at h1
    · rename_i v r hm
      exact ⟨cd, r, hc, by rw [hm, of_decide_eq_true h1]⟩
    · cases h1
  · cases h1
def isCB (c : Str) (K : PySem.W.Frag) : Bool := He.eqO (PySem.W.findIn K (.ref (He.ga K c)) "__class__") (some (some (.builtin "object.__class__"))) && (He.eqO (PySem.W.specialIn K (.builtin "object.__class__") "__get__") (some (some (.builtin "getset_descriptor.__get__"))) && (decide (PySem.W.takesIn K (.builtin "object.__class__") = some true) && (decide (PySem.W.mroIn K (He.ga K c) (.type "object") = some true) &&
  (decide (PySem.W.kitOne K (.ref (He.ga K c)) (.ref (He.ga K c)) = some true) && tysL.all fun t => decide (PySem.W.kitOne K (.type t) (.ref (He.ga K c)) = some false)))))
theorem isCB_ok {K : PySem.W.Frag} {c : Str} (hC : Cls K (He.ga K c)) (h : isCB c K = true) : IsC K c := by
  obtain ⟨h1, h⟩ := He.ba h
  obtain ⟨h2, h⟩ := He.ba h
  obtain ⟨h3, h⟩ := He.ba h
  obtain ⟨h4, h⟩ := He.ba h
  obtain ⟨h5, h6⟩ := He.ba h
  exact ⟨hC, fun H a dx fs e => .base (.ins e hC (He.eqO_ok h1) (He.eqO_ok h2) (of_decide_eq_true h3) (of_decide_eq_true h4)), of_decide_eq_true h5, fun t ht => of_decide_eq_true (List.all_eq_true.mp h6 t ht)⟩
/-- what is known of a class: it can be made, looked at, asked after -/
structure KC (K : PySem.W.Frag) (mg : Str → Option Value) (c : Str) : Prop where
  cl : Cls K (He.ga K c)
  is : IsC K c
  mak : Mk K (He.ga K c) (He.ma K (He.ga K c) "__init__")
  mg : mg c = some (.ref (He.ga K c))
/-- what is known of a method -/
def KnM (P : Program) (w : World) (K : PySem.W.Frag) (mg : Str → Option Value) (base : Heap) (c m : Str) (k : Nat) (ps : List Str) (fn : Fn) : Prop := ∃ fd, FnOk P w K mg base (L2N.CX P w) k (He.ma K (He.ga K c) m) fd ps (spF K ps.length fn) ∧ Binds K fd ps []
def clsDef (st : Stmt) (j : Nat) : Stmt := match st with
  | .ClassDef _ _ _ body _ _ _ _ _ _ _ => body.getD j (.Pass ⟨0, 0, 0, 0⟩)
  | _ => .Pass ⟨0, 0, 0, 0⟩
section
variable {P : Program} {w : World} {K : PySem.W.Frag} {mg : Str → Option Value} {base : Heap} {c x q : Str} {st : Stmt} {dvs : List V}
/-- the method, as the written part has it -/
def MtW (K : PySem.W.Frag) (c x q : Str) (st : Stmt) (dvs : List V) : Prop := ∃ fd, FunD K x q (defArgs st) (defBody st) (defScope st) dvs [] (He.ma K (He.ga K c) x) fd
theorem knM_ok {N ps : List Str} {k : Nat} {m : MS} (F : MtW K c x q st dvs) (Sc : FnScope N ps (defScope st))
    (hbn : ∀ fd, FunD K x q (defArgs st) (defBody st) (defScope st) dvs [] (He.ma K (He.ga K c) x) fd → Binds K fd ps [])
    (hb : ∀ (cdv : Value) (A : Around) (outer : List Env) (s : Shared) (H : Hp) (E : XK), Room k (A.deeper (PyProof.Rows.envOfC q (defScope st) s.heap.objs.size (He.ma K (He.ga K c) x) cdv)) →
      L2N.Takes (cxOf (L2N.CX P w) P w K mg base N q (defScope st) (He.ma K (He.ga K c) x) cdv A outer s H E) (fun c d _ H => E c d H) → PassesOwn (model P w) (A.deeper (PyProof.Rows.envOfC q (defScope st) s.heap.objs.size (He.ma K (He.ga K c) x) cdv)) (PyProof.Rows.envOfC q (defScope st) s.heap.objs.size (He.ma K (He.ga K c) x) cdv) (cxOf (L2N.CX P w) P w K mg base N q (defScope st) (He.ma K (He.ga K c) x) cdv A outer s H E).xe →
      (A.deeper (PyProof.Rows.envOfC q (defScope st) s.heap.objs.size (He.ma K (He.ga K c) x) cdv)).units + 64 < cLine → (A.deeper (PyProof.Rows.envOfC q (defScope st) s.heap.objs.size (He.ma K (He.ga K c) x) cdv)).units + 1 < cLine →
      JSs (cxOf (L2N.CX P w) P w K mg base N q (defScope st) (He.ma K (He.ga K c) x) cdv A outer s H E) (fun c d _ H => E c d H) (defBody st) m) :
    KnM P w K mg base c x (k + 1) ps (fnM N.length m) := by
  obtain ⟨fd, F⟩ := F
  refine ⟨fd, fn_ok F Sc fun cdv A outer s H E hr => ?_, hbn fd F⟩
  exact hb cdv A outer s H E hr (L2N.takes_of rfl rfl rfl rfl) (passes_of (X := cxOf (L2N.CX P w) P w K mg base N q (defScope st) (He.ma K (He.ga K c) x) cdv A outer s H E) rfl) (by have := hr.un; omega) (by have := hr.un; omega)
/-- all parameters are handed in, though the last one has a default -/
theorem binds_full {ps : List Str} {fd : FuncData} {d0 : V} (F : FunD K x q (defArgs st) (defBody st) (defScope st) [d0] [] (He.ma K (He.ga K c) x) fd)
    (h : ∀ (T : Addr) (kV doc pm : Value) (an : Option Addr) (cdv ct : Value) (us its : List Value), us.length = ps.length → its.length = 1 →
      ∃ k, bindArgs (PySem.W.fnOf x q (defArgs st) (defBody st) (defScope st) (.ref T) kV doc pm an cdv ct) ⟨us, []⟩ = seqItems? (.ref T) >>= k ∧ k (some its.toArray) = pure (ps.zip (us ++ its.drop 1))) : Binds K fd ps [] := by
  obtain ⟨ds, h1, h2⟩ := F.binds1 ps.length 1 (by simp) (by simp) h
  cases h1
  exact h2
end
section
variable {X : Cx} {W : WX} {k : Nat} {ps : List Str} {fn : Fn} {c nm : Str} {a b e : Expr} {es : List Expr} {ma mb m : ME} {mm : MA} {p pos : Pos}
theorem je_makeK (C : KC X.K X.mg c) (F : KnM X.prog X.w X.K X.mg X.base c "__init__" k ps fn) (hr : Room (k + 1) X.A) (tk : L2N.Takes X W) (hg : Gl X c) (ha : JA X W (e :: es) mm) (hl : (e :: es).length + 1 = ps.length := by rfl) (hdb : (c == ("__debug__" : Str)) = false := by decide) (he : starEach (e :: es) X.env = (false, eval e X.env) :: starEach es X.env := by rfl) (hpl : (backTo pos (starEach es X.env)).any (·.1) = false := by rfl) :
    JE X W (.Call (.Name c p) (e :: es) [] pos) (mMake c fn mm) := by
  obtain ⟨fd, F, hb⟩ := F
  exact je_make C.mak F hr tk hg C.mg hb ha hl hdb he hpl
end
end DL
namespace DL
open PySem PySem.Spec L2
def mPar3 (i j l : Nat) (m : MA) : MS := bnd m fun ds s => match ds with
  | [d, e, f] => .ok .nx (((s.put i (.imm d)).put j (.imm e)).put l (.imm f))
  | _ => .stuck
end DL
namespace LC
open DL
noncomputable section
def m__law_span_is : MS := (mSeq (mSet 2 (mFld "Span" "stretches" (mVar 0)))
  (mSeq (mIfS (mOrT (mNotT (mTru (mUn (fIsi "tuple") (mLook 2)))) (mOrT (mBl (mNeV 2 (mVar 1))) (mNotT (mTru (mUn fAll (mFz (mLc (mIt (mVar 2)) (gNm 3) mYes (mUn (fIsi "tuple") (mLook 3)) [3]))))))) (mRet (mC (.bl false))) mPass)
  (mRet (mUn fAll (mFz (mLc (mIt (mVar 2)) (gTp 2 (gsCons (gNm 4) (gsCons (gNm 5) gsNil))) mYes (mAnd (mCall f__law_whole (mCons (mVar 4) mNil)) (mOr (mBin fIsN (mVar 5) (mC .non)) (mCall f__law_whole (mCons (mVar 5) mNil)))) [4, 5]))))))
def f__law_span_is : Fn := fnM 6 m__law_span_is
def m__law_highs : MS := (mRet (mFz (mBinF lAddL (mFz (mLc (mIt (mSlN 0 (mPart (mC (.int 1))) mNoP)) (gNm 1) mYes (mBin iSub (mVar 1) (mC (.int 1))) [1])) (mFz (mLst (mCons (mC .non) mNil))))))
def f__law_highs : Fn := fnM 2 m__law_highs
def m__law_joined : MS := (mSeq (mOwn 1 (mLst mNil))
  (mSeq (mFor (mIt (mVar 0)) (gTp 3 (gsCons (gNm 2) (gsCons (gNm 3) (gsCons (gNm 4) gsNil)))) (mIfS (mAndT (mBl (mNeV 1 (mFz (mLst mNil)))) (mBl (mBin fEq (mBin ixD (mIxN 1 (mUn iNeg (mC (.int 1)))) (mC (.int 2))) (mVar 4)))) (mSetIx 1 (mUn iNeg (mC (.int 1))) (mTup (mCons (mBin ixD (mIxN 1 (mUn iNeg (mC (.int 1)))) (mC (.int 0))) (mCons (mVar 3) (mCons (mVar 4) mNil))))) (mExpr (mApp 1 (mTup (mCons (mVar 2) (mCons (mVar 3) (mCons (mVar 4) mNil))))))))
  (mRet (mVar 1))))
def f__law_joined : Fn := fnM 5 m__law_joined
def m__law_spread : MS := (mSeq (mSet 2 (mCall f__law_joined (mCons (mFz (mLc (mZip3 (mCons (mVar 0) (mCons (mCall f__law_highs (mCons (mVar 0) mNil)) (mCons (mVar 1) mNil)))) (gTp 3 (gsCons (gNm 3) (gsCons (gNm 4) (gsCons (gNm 5) gsNil)))) mYes (mTup (mCons (mVar 3) (mCons (mVar 4) (mCons (mVar 5) mNil)))) [3, 4, 5])) mNil)))
  (mRet (mUn fTuple (mFz (mLc (mIt (mVar 2)) (gTp 3 (gsCons (gNm 3) (gsCons (gNm 4) (gsCons (gNm 5) gsNil)))) (mTru (mLook 5)) (mTup (mCons (mVar 3) (mCons (mVar 4) mNil))) [3, 4, 5])))))
def f__law_spread : Fn := fnM 6 m__law_spread
def m__law_within : MS := (mRet (mUn fAny (mFz (mLc (mIt (mVar 0)) (gTp 2 (gsCons (gNm 2) (gsCons (gNm 3) gsNil))) mYes (mAnd (mBin iLe (mVar 2) (mVar 1)) (mOr (mBin fIsN (mVar 3) (mC .non)) (mBin iLe (mVar 1) (mVar 3)))) [2, 3]))))
def f__law_within : Fn := fnM 4 m__law_within
def m__law_points : MS := (mSeq (mOwn 1 (mBinF lAddL (mFz (mBinF lAddL (mFz (mLst (mCons (mC (.int 0)) mNil))) (mFz (mLc (mIt (mVar 0)) (gTp 2 (gsCons (gNm 2) (gsCons (gNm 3) gsNil))) mYes (mVar 2) [2, 3])))) (mFz (mLc (mIt (mVar 0)) (gTp 2 (gsCons (gNm 2) (gsCons (gNm 3) gsNil))) (mBl (mBin fNotN (mVar 3) (mC .non))) (mBin fAdd (mVar 3) (mC (.int 1))) [2, 3]))))
  (mRet (mFz (mUnF fSrtU (mFz (mLc (mIt (mVar 1)) (gNm 4) mYes (mUn fInt (mLook 4)) [4]))))))
def f__law_points : Fn := fnM 5 m__law_points
def m__law_mixed_up : MS := (mSeq (mSet 3 (mCall f__law_points (mCons (mBin fAdd (mVar 0) (mVar 1)) mNil)))
  (mSeq (mOwn 4 (mLc (mIt (mVar 3)) (gNm 5) mYes (mTup (mCons (mCall f__law_within (mCons (mVar 0) (mCons (mVar 5) mNil))) (mCons (mCall f__law_within (mCons (mVar 1) (mCons (mVar 5) mNil))) mNil))) [5]))
  (mSeq (mIfS (mBl (mBin fEq (mVar 2) (mC (.int 0)))) (mRet (mCall f__law_spread (mCons (mVar 3) (mCons (mFz (mLc (mIt (mVar 4)) (gTp 2 (gsCons (gNm 6) (gsCons (gNm 7) gsNil))) mYes (mOr (mVar 6) (mVar 7)) [6, 7])) mNil)))) mPass)
  (mSeq (mIfS (mBl (mBin fEq (mVar 2) (mC (.int 1)))) (mRet (mCall f__law_spread (mCons (mVar 3) (mCons (mFz (mLc (mIt (mVar 4)) (gTp 2 (gsCons (gNm 6) (gsCons (gNm 7) gsNil))) mYes (mAnd (mVar 6) (mVar 7)) [6, 7])) mNil)))) mPass)
  (mRet (mCall f__law_spread (mCons (mVar 3) (mCons (mFz (mLc (mIt (mVar 4)) (gTp 2 (gsCons (gNm 6) (gsCons (gNm 7) gsNil))) mYes (mIf (mBl (mBin fEq (mVar 2) (mC (.int 2)))) (mAnd (mVar 6) (mNot (mVar 7))) (mBin fNe (mVar 6) (mVar 7))) [6, 7])) mNil))))))))
def f__law_mixed_up : Fn := fnM 8 m__law_mixed_up
def m_paired : MS := (mSeq (mOwn 1 (mBinF lAddL (mFz (mLc (mIt (mVar 0)) (gNm 2) mYes (mBin iSub (mVar 2) (mC (.int 1))) [2])) (mFz (mLst (mCons (mC .non) mNil)))))
  (mRet (mUn fTuple (mFz (mLc (mRng rng3 (mCons (mC (.int 0)) (mCons (mUn fLen (mLook 0)) (mCons (mC (.int 2)) mNil)))) (gNm 3) mYes (mTup (mCons (mIxN 0 (mVar 3)) (mCons (mIxN 1 (mBin fAdd (mVar 3) (mC (.int 1)))) mNil))) [3])))))
def f_paired : Fn := fnM 4 m_paired
def m_turning_points : MS := (mRet (mFz (mLc2 (mIt (mVar 0)) (gTp 2 (gsCons (gNm 1) (gsCons (gNm 2) gsNil))) mYes (mIfF (mBl (mBin fIsN (mVar 2) (mC .non))) (mLst (mCons (mVar 1) mNil)) (mLst (mCons (mVar 1) (mCons (mBin fAdd (mVar 2) (mC (.int 1))) mNil)))) (gNm 3) mYes (mVar 3) [1, 2, 3] [3])))
def f_turning_points : Fn := fnM 4 m_turning_points
def m_combined : MS := (mSeq (mSet 3 (mCall f_turning_points (mCons (mVar 0) mNil)))
  (mSeq (mSet 4 (mCall f_turning_points (mCons (mVar 1) mNil)))
  (mSeq (mSet 5 (mC (.int 0)))
  (mSeq (mSet 6 (mC (.int 0)))
  (mSeq (mOwn 7 (mLst mNil))
  (mSeq (mWhile (mOrT (mBl (mBin iLt (mVar 5) (mUn fLen (mLook 3)))) (mBl (mBin iLt (mVar 6) (mUn fLen (mLook 4))))) (mSeq (mIfS (mOrT (mBl (mBin fEq (mVar 6) (mUn fLen (mLook 4)))) (mAndT (mBl (mBin iLt (mVar 5) (mUn fLen (mLook 3)))) (mBl (mBin iLt (mIxN 3 (mVar 5)) (mIxN 4 (mVar 6)))))) (mSet 8 (mIxN 3 (mVar 5))) (mSet 8 (mIxN 4 (mVar 6))))
  (mSeq (mIfS (mAndT (mBl (mBin iLt (mVar 5) (mUn fLen (mLook 3)))) (mBl (mBin fEq (mIxN 3 (mVar 5)) (mVar 8)))) (mSet 5 (mBin fAdd (mVar 5) (mC (.int 1)))) mPass)
  (mSeq (mIfS (mAndT (mBl (mBin iLt (mVar 6) (mUn fLen (mLook 4)))) (mBl (mBin fEq (mIxN 4 (mVar 6)) (mVar 8)))) (mSet 6 (mBin fAdd (mVar 6) (mC (.int 1)))) mPass)
  (mIfS (mBl (mBin fNe (mIxN 2 (mBin fAdd (mBin fMul (mBin iMod (mVar 5) (mC (.int 2))) (mC (.int 2))) (mBin iMod (mVar 6) (mC (.int 2))))) (mBin fEq (mBin iMod (mUn fLen (mLook 7)) (mC (.int 2))) (mC (.int 1))))) (mExpr (mApp 7 (mVar 8))) mPass)))))
  (mRet (mCall f_paired (mCons (mVar 7) mNil)))))))))
def f_combined : Fn := fnM 9 m_combined
def m_is_whole : MS := (mRet (mAnd (mUn (fIsi "int") (mLook 0)) (mNot (mUn (fIsi "bool") (mLook 0)))))
def f_is_whole : Fn := fnM 1 m_is_whole
def m_is_stretch : MS := (mSeq (mIfS (mOrT (mNotT (mTru (mUn (fIsi "tuple") (mLook 0)))) (mBl (mBin fNe (mUn fLen (mLook 0)) (mC (.int 2))))) (mRet (mC (.bl false))) mPass)
  (mSeq (mAsg (gTL 2 (gsCons (gNm 1) (gsCons (gNm 2) gsNil))) (mVar 0))
  (mSeq (mIfS (mOrT (mNotT (mTru (mCall f_is_whole (mCons (mVar 1) mNil)))) (mBl (mBin iLt (mVar 1) (mC (.int 0))))) (mRet (mC (.bl false))) mPass)
  (mRet (mOr (mBin fIsN (mVar 2) (mC .non)) (mAnd (mCall f_is_whole (mCons (mVar 2) mNil)) (mBin iGe (mVar 2) (mVar 1))))))))
def f_is_stretch : Fn := fnM 3 m_is_stretch
def m_Span___init__ : MS := (mSeq (mIfS (mNotT (mTru (mUn (fIsiA ["list", "tuple"]) (mVar 1)))) (mRaise "BadValue" "shown" (mVar 1)) mPass)
  (mSeq (mSet 2 (mTup mNil))
  (mSeq (mFor (mIt (mVar 1)) (gNm 3) (mSeq (mIfS (mNotT (mTru (mCall f_is_stretch (mCons (mVar 3) mNil)))) (mRaise "BadValue" "shown" (mVar 3)) mPass)
  (mSet 2 (mCall f_combined (mCons (mVar 2) (mCons (mTup (mCons (mVar 3) mNil)) (mCons (mC (.kt [(.bl false), (.bl true), (.bl true), (.bl true)])) mNil)))))))
  (mSetF "Span" "stretches" (mVar 0) (mVar 2)))))
def f_Span___init__ : Fn := fnM 4 m_Span___init__
def m_Span___or__ : MS := (mSeq (mIfS (mNotT (mTru (mIsC "Span" (mLook 1)))) stk mPass)
  (mRet (mMake "Span" f_Span___init__ (mCons (mCall f_combined (mCons (mFld "Span" "stretches" (mVar 0)) (mCons (mFld "Span" "stretches" (mVar 1)) (mCons (mC (.kt [(.bl false), (.bl true), (.bl true), (.bl true)])) mNil)))) mNil))))
def f_Span___or__ : Fn := fnM 2 m_Span___or__
def m_Span___xor__ : MS := (mSeq (mIfS (mNotT (mTru (mIsC "Span" (mLook 1)))) stk mPass)
  (mRet (mMake "Span" f_Span___init__ (mCons (mCall f_combined (mCons (mFld "Span" "stretches" (mVar 0)) (mCons (mFld "Span" "stretches" (mVar 1)) (mCons (mC (.kt [(.bl false), (.bl true), (.bl true), (.bl false)])) mNil)))) mNil))))
def f_Span___xor__ : Fn := fnM 2 m_Span___xor__
def m_Span___invert__ : MS := (mRet (mMake "Span" f_Span___init__ (mCons (mCall f_combined (mCons (mC (.kt [(.kt [(.int 0), .non])])) (mCons (mFld "Span" "stretches" (mVar 0)) (mCons (mC (.kt [(.bl false), (.bl false), (.bl true), (.bl false)])) mNil)))) mNil)))
def f_Span___invert__ : Fn := fnM 1 m_Span___invert__
def m_Span___isub__ : MS := (mSeq (mIfS (mNotT (mTru (mIsC "Span" (mLook 1)))) stk mPass)
  (mSeq (mSetF "Span" "stretches" (mVar 0) (mCall f_combined (mCons (mFld "Span" "stretches" (mVar 0)) (mCons (mFld "Span" "stretches" (mVar 1)) (mCons (mC (.kt [(.bl false), (.bl false), (.bl true), (.bl false)])) mNil)))))
  (mRet (mVar 0))))
def f_Span___isub__ : Fn := fnM 2 m_Span___isub__
def m_Span___iand__ : MS := (mSeq (mIfS (mNotT (mTru (mIsC "Span" (mLook 1)))) stk mPass)
  (mSeq (mSetF "Span" "stretches" (mVar 0) (mCall f_combined (mCons (mFld "Span" "stretches" (mVar 0)) (mCons (mFld "Span" "stretches" (mVar 1)) (mCons (mC (.kt [(.bl false), (.bl false), (.bl false), (.bl true)])) mNil)))))
  (mRet (mVar 0))))
def f_Span___iand__ : Fn := fnM 2 m_Span___iand__
def m_Span___ior__ : MS := (mSeq (mIfS (mNotT (mTru (mIsC "Span" (mLook 1)))) stk mPass)
  (mSeq (mSetF "Span" "stretches" (mVar 0) (mCall f_combined (mCons (mFld "Span" "stretches" (mVar 0)) (mCons (mFld "Span" "stretches" (mVar 1)) (mCons (mC (.kt [(.bl false), (.bl true), (.bl true), (.bl true)])) mNil)))))
  (mRet (mVar 0))))
def f_Span___ior__ : Fn := fnM 2 m_Span___ior__
def m__law_united : MS := (mSeq (mSet 1 (mCall f__law_points (mCons (mVar 0) mNil)))
  (mRet (mCall f__law_spread (mCons (mVar 1) (mCons (mFz (mLc (mIt (mVar 1)) (gNm 2) mYes (mCall f__law_within (mCons (mVar 0) (mCons (mVar 2) mNil))) [2])) mNil)))))
def f__law_united : Fn := fnM 3 m__law_united
def m__law_stretch : MS := (mSeq (mSet 2 (mBin fAdd (mVar 1) (mCall f__law_draw (mCons (mVar 0) (mCons (mC (.int 40)) mNil)))))
  (mRet (mTup (mCons (mVar 2) (mCons (mIf (mBl (mBin fEq (mCall f__law_draw (mCons (mVar 0) (mCons (mC (.int 12)) mNil))) (mC (.int 0)))) (mC .non) (mBin fAdd (mVar 2) (mCall f__law_draw (mCons (mVar 0) (mCons (mC (.int 7)) mNil))))) mNil)))))
def f__law_stretch : Fn := fnM 3 m__law_stretch
def m__law_stretches : MS := (mSeq (mOwn 2 (mLc (mRng rng1 (mCons (mCall f__law_draw (mCons (mVar 0) (mCons (mC (.int 8)) mNil))) mNil)) (gNm 3) mYes (mCall f__law_stretch (mCons (mVar 0) (mCons (mVar 1) mNil))) [3]))
  (mRet (mFz (mBinF lAddL (mVar 2) (mFz (mBinF lRepL (mFz (mLst (mCons (mTup (mCons (mC (.int 0)) (mCons (mCall f__law_draw (mCons (mVar 0) (mCons (mC (.int 9)) mNil))) mNil))) mNil))) (mCall f__law_draw (mCons (mVar 0) (mCons (mC (.int 2)) mNil)))))))))
def f__law_stretches : Fn := fnM 4 m__law_stretches
def m__law_great : MS := (mSeq (mAsg (gTL 2 (gsCons (gNm 2) (gsCons (gNm 3) gsNil))) (mTup (mCons (mC (.int 0)) (mCons (mC (.int 1)) mNil))))
  (mSeq (mWhile (mBl (mBin iLt (mVar 3) (mVar 1))) (mPar 2 3 (mCons (mBin fAdd (mBin fMul (mVar 2) (mBin iPow (mC (.int 10)) (mC (.int 9)))) (mCall f__law_draw (mCons (mVar 0) (mCons (mBin iPow (mC (.int 10)) (mC (.int 9))) mNil)))) (mCons (mBin fMul (mVar 3) (mBin iPow (mC (.int 10)) (mC (.int 9)))) mNil))))
  (mRet (mBin iMod (mUn fInt (mLook 2)) (mVar 1)))))
def f__law_great : Fn := fnM 4 m__law_great
def m__law_base : MS := (mRet (mIf (mBl (mBin fEq (mCall f__law_draw (mCons (mVar 0) (mCons (mC (.int 4)) mNil))) (mC (.int 0)))) (mCall f__law_great (mCons (mVar 0) (mCons (mBin iPow (mC (.int 10)) (mC (.int 60))) mNil))) (mCall f__law_draw (mCons (mVar 0) (mCons (mC (.int 3)) mNil)))))
def f__law_base : Fn := fnM 1 m__law_base
end
end LC
namespace DL
open PySem PySem.Spec L2
def mMax2 (m : MA) : ME := bnd m fun ds s => match ds with
  | [.int i, .int j] => .ok (.int (if j > i then j else i)) s
  | _ => .stuck
theorem ty_look {X : Cx} {pins : List (Addr × Obj)} {σ : L2.St} {H : Hp} {s : Shared} {M : Model} {y : V} {u t : Value} (I : Inv X pins σ H s) (ry : RelV y u) (ty : TyX X.K H y t) : PySem.W.Looks M s.heap (typeOf u) t := by
  obtain ⟨P, Z, p, _⟩ := kit_of I ry ty
  exact Z.ty _ _ I.kIn p
def isTyV : Value → Bool
  | .type _ => true
  | _ => false
theorem mro_tab : (tysL.all fun t => match fastBuiltinMro t with | some l => l.all isTyV | none => false) = true := by decide +kernel
theorem no_ref {l : List Value} (h : l.all isTyV = true) (C : Addr) : l.contains (.ref C) = false := by
  rw [List.contains_eq_any_beq, List.any_eq_false]
  intro v hv
  have := List.all_eq_true.mp h v hv
  cases v <;> simp [isTyV] at this ⊢
theorem sub_ty {K : PySem.W.Frag} {t : String} (h : t ∈ tysL) (C : Addr) : PySem.W.subIn K (.type t) (.ref C) = some false := by
  have e := List.all_eq_true.mp mro_tab t h
  show (fastBuiltinMro t).map (·.contains (.ref C)) = some false
  split at e
  · rename_i l hl
    rw [hl, Option.map_some, no_ref e]
  · cases e
end DL
namespace DL
open PySem PySem.Spec L2
section
variable {prog : Program} {w : World} {A : Around} {E : Value → Shared → Prop} {s : Shared} {K : PySem.W.Frag} {M : Model} {h : Heap} {C f a : Addr} {oa : Obj} {da : Option Obj}
structure IntOp (nm : String) : Prop where
  f : ∃ v, builtinLookup "int" (PySem.dunder nm) = some (some v) ∧ isSeqSlot (some v) = false
  r : ∃ v, builtinLookup "int" (PySem.dunderR nm) = some v
theorem look_int {name : Str} {r : Option Value} (e : builtinLookup "int" name = some r) : PySem.W.Looks M h (typeLookup (.type "int") name) r := PySem.W.Looks.of_pure (by rw [typeLookup_type, e])
theorem fills_int {nm : String} (i : IntOp nm) : PySem.W.Looks M h (fillsNumberSlot (.type "int") nm) true := by
  obtain ⟨⟨v, h1, h2⟩, ⟨r, h3⟩⟩ := i
  unfold fillsNumberSlot
  refine PySem.W.Looks.andThen (look_int h1) (PySem.W.Looks.andThen (look_int h3) ?_)
  refine PySem.W.Looks.of_pure ?_
  rw [h2]
  rfl
theorem py_own {nm : String} {r0 : Option Value} (X : K.In h) (o : Own K C f (PySem.dunder nm)) (hr : PySem.W.findIn K (.ref C) (PySem.dunderR nm) = some r0) (hn : r0 = none ∨ ∃ g, r0 = some (.ref g)) : PySem.W.Looks M h (numberSlotInPython (.ref C) nm) true := by
  unfold numberSlotInPython
  refine PySem.W.Looks.andThen (PySem.W.looks_findIn X o.at_) (PySem.W.Looks.andThen (a := true) (PySem.W.Looks.of_pure rfl) (PySem.W.Looks.andThen (PySem.W.looks_findIn X hr) (PySem.W.Looks.andThen (a := r0.isSome) ?_ ?_)))
  · rcases hn with rfl | ⟨g, rfl⟩ <;> exact PySem.W.Looks.of_pure rfl
  · exact PySem.W.Looks.of_pure rfl
theorem bin_ownI {op : Operator} {n : Int} {tk : Tok} {r0 : Option Value} {Q : Value → Shared → Prop} (X : K.In s.heap) (J : PySem.W.InstAt s.heap a oa C da) (o : Own K C f (PySem.dunder op.info.2)) (io : IntOp op.info.2) (hr : PySem.W.findIn K (.ref C) (PySem.dunderR op.info.2) = some r0) (hn : r0 = none ∨ ∃ g, r0 = some (.ref g))
    (hcall : wpAny (model prog w) A (call (.ref f) [.ref a, .int n tk]) (fun v s' => v ≠ .notImplemented ∧ Q v s') E s) : wpAny (model prog w) A (binaryOp op (.ref a) (.int n tk)) Q E s := by
  unfold binaryOp
  refine wpAny_holding ?_
  generalize hop : op.info = oi at o io hr ⊢
  obtain ⟨sym, nm⟩ := oi
  dsimp only at o io hr ⊢
  refine wpAny_bind ?_
  unfold binaryOp1
  have ty : PySem.W.Looks (model prog w) s.heap (typeOf (.int n tk)) (.type "int") := PySem.W.Looks.of_pure rfl
  have ne : (Value.ref C == Value.type "int") = false := by simp
  have su := PySem.W.looks_subIn (M := model prog w) X (sub_ty (K := K) (t := "int") (by decide) C)
  obtain ⟨rv, hrv⟩ := io.r
  refine wpAny_bind (J.type.here (wpAny_bind (ty.here (wpAny_bind ((fills_own X o).here ?_)))))
  simp only [ne, Bool.false_eq_true, if_false]
  refine wpAny_bind ((fills_int io).here ?_)
  simp only [Bool.and_self, if_true]
  refine wpAny_bind (su.here ?_)
  simp only [Bool.false_eq_true, if_false, pure_bind, Bool.not_false, Bool.and_self, if_true]
  refine wpAny_bind ((py_own X o hr hn).here ?_)
  simp only [if_true]
  refine wpAny_bind (wpAny_of_eq (show numberSlotInPython (.type "int") nm = pure false from rfl) ?_)
  simp only [Bool.not_false, if_true]
  refine wpAny_bind ((look_int hrv).here ?_)
  refine wpAny_bind (tryMethod_own X J o (wpAny_mono hcall (fun v s' q => ⟨q.1, ?_⟩) fun _ _ e => e))
  exact wpAny_pure (wpAny_pure q.2)
end
theorem io_rshift : IntOp "rshift" := ⟨⟨.builtin "int.__rshift__", by rw [builtinLookup_eq_fast]; kernel_rfl, by decide +kernel⟩, ⟨some (.builtin "int.__rrshift__"), by rw [builtinLookup_eq_fast]; kernel_rfl⟩⟩
end DL
namespace DL
open PySem PySem.Spec L2
def tyK (c : Str) (s : S) (y : D) : Bool := (insAt c s y).isSome || (tyD y).isSome
def okO (s : S) : RO → DL.R D
  | .ok z st' => .ok z { s with st := st' }
  | _ => .stuck
def nbO (s : S) : RO → DL.R D
  | .ok (.bl b) st' => .ok (.bl (!b)) { s with st := st' }
  | _ => .stuck
def mCmpO (c : Str) (fn : Fn) (a b : ME) : ME := bnd a fun x => bnd b fun y s => match insAt c s x with
  | some _ => if tyK c s y then okO s (fn [x, y] s.st) else .stuck
  | none => .stuck
def mNeO (c : Str) (fn : Fn) (a b : ME) : ME := bnd a fun x => bnd b fun y s => match insAt c s x with
  | some _ => if tyK c s y then nbO s (fn [x, y] s.st) else .stuck
  | none => .stuck
def mOpI (c : Str) (fn : Fn) (a b : ME) : ME := bnd a fun x => bnd b fun y s => match insAt c s x, y with
  | some _, .int _ => outR s (fn [x, y] s.st)
  | _, _ => .stuck
section
variable {X : Cx} {W : WX} {k : Nat} {f : Addr} {fd : FuncData} {ps : List Str} {fn : Fn} {c : Str} {a b e : Expr} {ma mb m : ME} {pos : Pos}
variable {nm : Str}
/-- the class has no reflected method of the name -/
def NoR (K : PySem.W.Frag) (c nm : Str) : Prop := ∃ r0, PySem.W.findIn K (.ref (He.ga K c)) nm = some r0 ∧ (r0 = none ∨ ∃ g, r0 = some (.ref g))
def tOpI (C : Addr) (sp : Sp) (E : L2.St → XK) (ta tb : TE) : TE := fun σ H Q => ta σ H fun x H1 => tb σ H1 fun y H2 => ∃ i di fi n, x = .ref i ∧ y = .int n ∧ H2 i = some (.ins C di fi) ∧ sp [x, y] H2 Q (E σ)
theorem je_opI {op : Operator} (o : Own X.K (He.ga X.K c) (He.ma X.K (He.ga X.K c) nm) nm) (hnm : nm = PySem.dunder op.info.2) (io : IntOp op.info.2) {rn : Str} (nr : NoR X.K c rn) (hrn : rn = PySem.dunderR op.info.2) (F : KnM X.prog X.w X.K X.mg X.base c nm k ps fn) (hr : Room k X.A) (tk : L2N.Takes X W) (ha : JE X W a ma) (hb' : JE X W b mb) (hl : 2 = ps.length := by rfl) : JE X W (.BinOp a op b pos) (mOpI c fn ma mb) := by
  subst hnm
  subst hrn
  obtain ⟨fd, F, hb⟩ := F
  obtain ⟨r0, n1, n2⟩ := nr
  have pe : PE X (.BinOp a op b pos) (tOpI (He.ga X.K c) (spF X.K ps.length fn) (WE W) (tG X.K X.pn W (AR X.K) ma) (tG X.K X.pn W (AR X.K) mb)) := by
    refine ⟨fun pins s σ H Q J h => wpAny_BinOp (binT ha hb' J h fun v u s2 x y H2 J2 rx ry q => ?_)⟩
    obtain ⟨i, di, fi, n, rfl, rfl, e1, q⟩ := q
    cases rx
    obtain ⟨t, rfl⟩ := ry
    obtain ⟨o1, I1⟩ := inst_of J2 e1
    refine bin_ownI J2.kIn I1 o io n1 n2 (thn (run_fnSD (E := WE W) (dvs := []) F hr hb Paired.nil (L2N.passAt tk σ) J2 (vs := [.ref i, .int n]) (.cons rfl (.cons ⟨t, rfl⟩ .nil)) q) fun z s3 hz => ?_)
    obtain ⟨v, H3, J3, rv, qv⟩ := hz
    exact ⟨relV_ne rv, v, H3, J3, rv, qv⟩
  refine PE.imp pe fun σ H Q h => ?_
  obtain ⟨w, rfl, rfl, r, h⟩ := h
  refine run r h fun x s1 G1 vx H1 g1 r1 p1 h1 => ?_
  refine run r1 h1 fun y s2 G2 vy H2 g2 r2 p2 h2 => ?_
  cases hi : insAt c s2 x with
  | none => simp only [hi] at h2; exact h2.elim
  | some qx =>
    simp only [hi] at h2
    split at h2
    · cases p2
      have p1 := p1.mono g2
      obtain ⟨i, di, fi, rfl, _, e1, _⟩ := insAt_rel (w := { w with G := G2, H := H2, s := s2 }) (fs := qx.2) (n := qx.1) r2 p1 hi
      exact ⟨i, di, fi, _, rfl, rfl, e1, call_run (W := W) (fn := fn) (w := { w with G := G2, H := H2, s := s2 }) r2 (.cons p1 (.cons (.int _) .nil)) hl h2⟩
    · exact h2.elim
end
def noRB (c nm : Str) (K : PySem.W.Frag) : Bool := He.eqO (PySem.W.findIn K (.ref (He.ga K c)) nm) (some none)
theorem noRB_ok {K : PySem.W.Frag} {c nm : Str} (h : noRB c nm K = true) : NoR K c nm := ⟨none, He.eqO_ok h, .inl rfl⟩
end DL
namespace LC
open DL
noncomputable section
def m_Span___eq__ : MS := (mRet (mAnd (mIsC "Span" (mLook 1)) (mBin fEq (mFld "Span" "stretches" (mVar 0)) (mFld "Span" "stretches" (mVar 1)))))
def f_Span___eq__ : Fn := fnM 2 m_Span___eq__
def m_Span___le__ : MS := (mSeq (mIfS (mNotT (mTru (mIsC "Span" (mLook 1)))) stk mPass)
  (mRet (mBin fEq (mCall f_combined (mCons (mFld "Span" "stretches" (mVar 0)) (mCons (mFld "Span" "stretches" (mVar 1)) (mCons (mC (.kt [(.bl false), (.bl false), (.bl true), (.bl false)])) mNil)))) (mTup mNil))))
def f_Span___le__ : Fn := fnM 2 m_Span___le__
def m_Span___lt__ : MS := (mSeq (mIfS (mNotT (mTru (mIsC "Span" (mLook 1)))) stk mPass)
  (mRet (mAnd (mBin fNe (mFld "Span" "stretches" (mVar 0)) (mFld "Span" "stretches" (mVar 1))) (mBin fEq (mCall f_combined (mCons (mFld "Span" "stretches" (mVar 0)) (mCons (mFld "Span" "stretches" (mVar 1)) (mCons (mC (.kt [(.bl false), (.bl false), (.bl true), (.bl false)])) mNil)))) (mTup mNil)))))
def f_Span___lt__ : Fn := fnM 2 m_Span___lt__
def m_Span___ge__ : MS := (mSeq (mIfS (mNotT (mTru (mIsC "Span" (mLook 1)))) stk mPass)
  (mRet (mBin fEq (mCall f_combined (mCons (mFld "Span" "stretches" (mVar 1)) (mCons (mFld "Span" "stretches" (mVar 0)) (mCons (mC (.kt [(.bl false), (.bl false), (.bl true), (.bl false)])) mNil)))) (mTup mNil))))
def f_Span___ge__ : Fn := fnM 2 m_Span___ge__
def m_Span___gt__ : MS := (mSeq (mIfS (mNotT (mTru (mIsC "Span" (mLook 1)))) stk mPass)
  (mRet (mAnd (mBin fNe (mFld "Span" "stretches" (mVar 0)) (mFld "Span" "stretches" (mVar 1))) (mBin fEq (mCall f_combined (mCons (mFld "Span" "stretches" (mVar 1)) (mCons (mFld "Span" "stretches" (mVar 0)) (mCons (mC (.kt [(.bl false), (.bl false), (.bl true), (.bl false)])) mNil)))) (mTup mNil)))))
def f_Span___gt__ : Fn := fnM 2 m_Span___gt__
def m__law_orders : MS := (mSeq (mOwn 4 (mLst (mCons (mCmpO "Span" f_Span___le__ (mVar 0) (mVar 1)) (mCons (mCmpO "Span" f_Span___lt__ (mVar 0) (mVar 1)) (mCons (mCmpO "Span" f_Span___ge__ (mVar 0) (mVar 1)) (mCons (mCmpO "Span" f_Span___gt__ (mVar 0) (mVar 1)) (mCons (mCmpO "Span" f_Span___eq__ (mVar 0) (mVar 1)) (mCons (mNeO "Span" f_Span___eq__ (mVar 0) (mVar 1)) mNil))))))))
  (mSeq (mOwn 5 (mLst (mCons (mVar 2) (mCons (mAnd (mVar 2) (mNot (mVar 3))) (mCons (mVar 3) (mCons (mAnd (mVar 3) (mNot (mVar 2))) (mCons (mAnd (mVar 2) (mVar 3)) (mCons (mNot (mAnd (mVar 2) (mVar 3))) mNil))))))))
  (mRet (mAnd (mBin fEq (mVar 4) (mVar 5)) (mUn fAll (mFz (mLc (mIt (mVar 4)) (gNm 6) mYes (mUn (fIsi "bool") (mLook 6)) [6])))))))
def f__law_orders : Fn := fnM 7 m__law_orders
def m_span_moved : MS := (mSeq (mOwn 2 (mLc (mIt (mVar 0)) (gTp 2 (gsCons (gNm 3) (gsCons (gNm 4) gsNil))) mYes (mTup (mCons (mBin fAdd (mVar 3) (mVar 1)) (mCons (mIf (mBl (mBin fIsN (mVar 4) (mC .non))) (mC .non) (mBin fAdd (mVar 4) (mVar 1))) mNil))) [3, 4]))
  (mRet (mUn fTuple (mFz (mLc (mIt (mVar 2)) (gTp 2 (gsCons (gNm 3) (gsCons (gNm 4) gsNil))) (mOrT (mBl (mBin fIsN (mVar 4) (mC .non))) (mBl (mBin iGe (mVar 4) (mC (.int 0))))) (mTup (mCons (mIf (mBl (mBin iGt (mVar 3) (mC (.int 0)))) (mVar 3) (mC (.int 0))) (mCons (mVar 4) mNil))) [3, 4])))))
def f_span_moved : Fn := fnM 5 m_span_moved
def m_Span___lshift__ : MS := (mSeq (mIfS (mNotT (mTru (mCall f_is_whole (mCons (mVar 1) mNil)))) (mRaise "BadValue" "shown" (mVar 1)) mPass)
  (mRet (mMake "Span" f_Span___init__ (mCons (mCall f_span_moved (mCons (mFld "Span" "stretches" (mVar 0)) (mCons (mUn iNeg (mVar 1)) mNil))) mNil))))
def f_Span___lshift__ : Fn := fnM 2 m_Span___lshift__
def m__law_moved_by : MS := (mSeq (mOwn 2 (mLc (mIt (mVar 0)) (gTp 2 (gsCons (gNm 3) (gsCons (gNm 4) gsNil))) mYes (mTup (mCons (mBin fAdd (mVar 3) (mVar 1)) (mCons (mIf (mBl (mBin fIsN (mVar 4) (mC .non))) (mC .non) (mBin fAdd (mVar 4) (mVar 1))) mNil))) [3, 4]))
  (mRet (mCall f__law_united (mCons (mFz (mLc (mIt (mVar 2)) (gTp 2 (gsCons (gNm 3) (gsCons (gNm 4) gsNil))) (mOrT (mBl (mBin fIsN (mVar 4) (mC .non))) (mBl (mBin iGe (mVar 4) (mC (.int 0))))) (mTup (mCons (mMax2 (mCons (mC (.int 0)) (mCons (mVar 3) mNil))) (mCons (mVar 4) mNil))) [3, 4])) mNil))))
def f__law_moved_by : Fn := fnM 5 m__law_moved_by
def m_Span___rshift__ : MS := (mSeq (mIfS (mNotT (mTru (mCall f_is_whole (mCons (mVar 1) mNil)))) (mRaise "BadValue" "shown" (mVar 1)) mPass)
  (mRet (mMake "Span" f_Span___init__ (mCons (mCall f_span_moved (mCons (mFld "Span" "stretches" (mVar 0)) (mCons (mVar 1) mNil))) mNil))))
def f_Span___rshift__ : Fn := fnM 2 m_Span___rshift__
def m__law_integer : MS := (mSeq (mPar 1 2 (mCons (mCall f__law_draw (mCons (mVar 0) (mCons (mC (.int 9)) mNil))) (mCons (mBin iSub (mC (.int 1)) (mBin fMul (mC (.int 2)) (mCall f__law_draw (mCons (mVar 0) (mCons (mC (.int 2)) mNil))))) mNil)))
  (mSeq (mIfS (mBl (mBin fEq (mVar 1) (mC (.int 0)))) (mRet (mC (.int 0))) mPass)
  (mSeq (mIfS (mBl (mBin iLt (mVar 1) (mC (.int 6)))) (mRet (mBin fMul (mVar 2) (mCall f__law_draw (mCons (mVar 0) (mCons (mC (.int 9)) mNil))))) mPass)
  (mSeq (mIfS (mBl (mBin fEq (mVar 1) (mC (.int 6)))) (mRet (mBin fMul (mVar 2) (mCall f__law_draw (mCons (mVar 0) (mCons (mC (.int 3000)) mNil))))) mPass)
  (mRet (mBin fMul (mVar 2) (mIf (mBl (mBin fEq (mVar 1) (mC (.int 7)))) (mBin iSub (mBin iPow (mC (.int 10)) (mC (.int 60))) (mCall f__law_draw (mCons (mVar 0) (mCons (mC (.int 3)) mNil)))) (mCall f__law_great (mCons (mVar 0) (mCons (mBin iPow (mC (.int 10)) (mC (.int 60))) mNil))))))))))
def f__law_integer : Fn := fnM 3 m__law_integer
def m_Span___sub__ : MS := (mSeq (mIfS (mNotT (mTru (mIsC "Span" (mLook 1)))) stk mPass)
  (mRet (mMake "Span" f_Span___init__ (mCons (mCall f_combined (mCons (mFld "Span" "stretches" (mVar 0)) (mCons (mFld "Span" "stretches" (mVar 1)) (mCons (mC (.kt [(.bl false), (.bl false), (.bl true), (.bl false)])) mNil)))) mNil))))
def f_Span___sub__ : Fn := fnM 2 m_Span___sub__
def m_Span___and__ : MS := (mSeq (mIfS (mNotT (mTru (mIsC "Span" (mLook 1)))) stk mPass)
  (mRet (mMake "Span" f_Span___init__ (mCons (mCall f_combined (mCons (mFld "Span" "stretches" (mVar 0)) (mCons (mFld "Span" "stretches" (mVar 1)) (mCons (mC (.kt [(.bl false), (.bl false), (.bl false), (.bl true)])) mNil)))) mNil))))
def f_Span___and__ : Fn := fnM 2 m_Span___and__
end
end LC
namespace HK
open PySem PySem.Spec PySem.W L2 DL He
end HK
namespace DL
open PySem PySem.Spec L2
def KnD (P : Program) (w : World) (K : PySem.W.Frag) (mg : Str → Option Value) (base : Heap) (g : Addr) (k : Nat) (ps : List Str) (fn : Fn) (dd : List D) : Prop :=
  ∃ fd dvs ds, FnOk P w K mg base (L2N.CX P w) k g fd ps (spF K ps.length fn) ∧ Binds K fd ps ds ∧ Vals dvs ds ∧ ∀ G, Reps K G dvs dd
section
variable {X : Cx} {W : WX} {k : Nat} {g p : Addr} {ps : List Str} {fn : Fn} {c f : Str} {e : Expr} {es : List Expr} {m mf : ME} {mm : MA} {pos apos : Pos} {dd : List D}
def mProp (c : Str) (fn : Fn) (m : ME) : ME := bnd m fun x s => match insAt c s x with
  | some _ => okO s (fn [x] s.st)
  | none => .stuck
def mCallO (c : Str) (fn : Fn) (mf : ME) (mm : MA) : ME := bnd mf fun x => match x with
  | .loc n => bnd mm fun ds s => (match insAt c s (.loc n) with
    | some _ => okO s (fn (.loc n :: ds) s.st)
    | none => .stuck)
  | _ => stk
def mCM (c : Str) (fn : Fn) (mm : MA) : ME := bnd mm fun ds s => okO s (fn (.cla c :: ds) s.st)
/-- C.m is a static method: its record at p, its def at g -/
structure SMet (K : PySem.W.Frag) (C : Addr) (mc : Value) (m : Str) (p g : Addr) : Prop where
  at_ : PySem.W.findCls K (.ref C) mc m = some (.get (.builtin "staticmethod.__get__") (.ref p) .none (.ref C))
  rc : ∃ rest, PySem.W.recIn K p "staticmethod" = some (.ref g :: rest)
  kp : PySem.W.keepIn K (.ref g) = true
def mSM (fn : Fn) (dd : List D) (mm : MA) : ME := bnd mm fun ds s => okO s (fn (ds ++ dd) s.st)
def mMake0 (c : Str) (fi : Fn) (dd : List D) : ME := fun s => match fi (.loc s.st.length :: dd) (s.st ++ [.ins c []]) with
  | .ok .non st' => .ok (.loc s.st.length) { s with st := st' }
  | _ => .stuck
/-- cls(..), slot i has the class -/
def mCls (i : Nat) (c : Str) (fi : Fn) (mm : MA) : ME := fun s => match s.sl[i]? with
  | some (.imm (.cla c')) => if c' = c then mMake c fi mm s else .stuck
  | _ => .stuck
theorem je_cls {i : Nat} {x : Str} {q : Pos} {a : Expr} (C : KC X.K X.mg c) (F : KnM X.prog X.w X.K X.mg X.base c "__init__" k ps fn) (hr : Room (k + 1) X.A) (tk : L2N.Takes X W) (hN : X.N[i]? = some x) (hv : Vis X.env.scope x) (ha : JA X W (a :: es) mm) (hl : (a :: es).length + 1 = ps.length := by rfl)
    (hdb : (x == ("__debug__" : Str)) = false := by decide) (hcd : (x == ("__classdict__" : Str)) = false := by decide) (he : starEach (a :: es) X.env = (false, eval a X.env) :: starEach es X.env := by rfl) (hpl : (backTo pos (starEach es X.env)).any (·.1) = false := by rfl) :
    JE X W (.Call (.Name x q) (a :: es) [] pos) (mCls i c fn mm) := by
  obtain ⟨fd, F, hb⟩ := F
  have pe : PE X (.Call (.Name x q) (a :: es) [] pos) (fun σ H Q => σ[i]? = some (some (.ref (He.ga X.K c))) ∧ tMakeA (He.ga X.K c) (spF X.K ps.length fn) [] (WE W) (tG X.K X.pn W (ARs X.K) mm) σ H Q) := by
    refine ⟨fun pins s σ H Q I h => ?_⟩
    obtain ⟨hs, ht⟩ := h
    refine wpAny_Call_Name_kw (thn ((pe_var (pos := q) hN hv hdb hcd).run pins s σ H (fun v H1 => v = .ref (He.ga X.K c) ∧ H1 = H) I ⟨.ref (He.ga X.K c), hs, rfl, rfl⟩) fun u s1 ⟨v, H1, I1, r1, q1⟩ => ?_)
    obtain ⟨rfl, rfl⟩ := q1
    cases r1
    refine PySem.W.callWith_K (h₀ := X.base) I.ok.mod.kin C.mak.kp (thn (ha.pa.run pos pins s1 σ _ _ I1 ht) fun us s2 ⟨vs, H2, I2, r, q⟩ => ⟨I2.kIn, ?_⟩) he hpl
    exact run_makeA (E := WE W) C.mak F hr hb Paired.nil (L2N.passAt tk σ) I2 r q
  refine PE.imp pe fun σ H Q h => ?_
  obtain ⟨w, rfl, rfl, r, h⟩ := h
  unfold mCls at h
  cases hs : w.s.sl[i]? with
  | none => simp only [hs] at h; exact h.elim
  | some sl =>
    cases sl with
    | imm d =>
      cases d with
      | cla c' =>
        simp only [hs] at h
        split at h
        · rename_i ec
          subst ec
          obtain ⟨v0, hv0, pv0⟩ := r.sl.imm i _ hs
          refine ⟨by cases pv0; exact hv0, ?_⟩
          refine run' r h fun as s' G' vs H' hm2 g r' q h' => ?_
          intro y dy hy hdy hne
          rw [List.append_nil]
          have r1 := r'.alloc (o := .own y) hdy
          have hy1 : upd H' dy (.own y) y = none := (upd_ne (Ne.symm hne)).trans hy
          obtain ⟨g2, r2, p2⟩ := Rel.newCell (w := { w with G := G', H := upd H' dy (.own y), s := s' }) (o := .ins c' []) (u := .ins (He.ga X.K c') dy []) r1 hy1 (fun G3 H3 g3 hH => ⟨dy, [], hH, .nil⟩)
          refine call_run (W := W) (fn := fn) (w := { w with G := { G' with ad := G'.ad ++ [y] }, H := upd (upd H' dy (.own y)) y (.ins (He.ga X.K c') dy []), s := { s' with st := s'.st ++ [.ins c' []] } }) (as := .loc s'.st.length :: as) r2 (.cons p2 (q.mono g2)) (by rw [List.length_cons, q.length, ha.len _ _ _ hm2, ← hl]) ?_
          dsimp only
          cases hf : fn (.loc s'.st.length :: as) (s'.st ++ [.ins c' []]) with
          | ok d st' =>
            rw [hf] at h'
            intro G3 v H3 g3 r3 p3
            cases d with
            | non =>
              cases p3
              exact ⟨rfl, h' G3 _ H3 (g2.trans g3) r3 (p2.mono g3)⟩
            | _ => exact h'.elim
          | exc y2 st' =>
            rw [hf] at h'
            exact fun G3 c3 d3 H3 g3 r3 p3 => h' G3 c3 d3 H3 (g2.trans g3) r3 p3
          | stuck =>
            rw [hf] at h'
            exact h'.elim
        · exact h.elim
      | _ => simp only [hs] at h; exact h.elim
    | _ => simp only [hs] at h; exact h.elim
end
end DL
namespace DL
open PySem PySem.Spec L2
abbrev wfC (K : PySem.W.Frag) (c f : Str) : Addr := He5.wf K (He.ga K c) "classmethod" f
abbrev wfS (K : PySem.W.Frag) (c f : Str) : Addr := He5.wf K (He.ga K c) "staticmethod" f
def creadB (c : Str) (K : PySem.W.Frag) : Bool := PySem.W.readsIn K (He.ga K c) (.type "type") && He.eqO (PySem.W.specialIn K (.ref (He.ga K c)) "__getattribute__") (some (some (.builtin "type.__getattribute__")))
theorem creadB_ok {K : PySem.W.Frag} {c : Str} (h : creadB c K = true) : ClX.CRead K (He.ga K c) (.type "type") := by
  obtain ⟨h1, h2⟩ := He.ba h
  exact ⟨h1, He.eqO_ok h2⟩
def cmB (c m : Str) (K : PySem.W.Frag) : Bool := He5.wrapB K (He.ga K c) "classmethod" "classmethod.__get__" m && PySem.W.fnIn K (wfC K c m)
theorem cmB_ok {K : PySem.W.Frag} {c m : Str} (h : cmB c m K = true) : ClX.CMet K (He.ga K c) (.type "type") m (He.ma K (He.ga K c) m) (wfC K c m) := by
  obtain ⟨h1, h2⟩ := He.ba h
  exact He5.cmet_of h1 h2
def smB (c m : Str) (K : PySem.W.Frag) : Bool := He5.wrapB K (He.ga K c) "staticmethod" "staticmethod.__get__" m && PySem.W.keepIn K (.ref (wfS K c m))
theorem smB_ok {K : PySem.W.Frag} {c m : Str} (h : smB c m K = true) : SMet K (He.ga K c) (.type "type") m (He.ma K (He.ga K c) m) (wfS K c m) := by
  obtain ⟨h1, h2⟩ := He.ba h
  obtain ⟨k1, k2⟩ := He5.wrapB_ok h1
  exact ⟨k1, k2, h2⟩
def callB (c : Str) (K : PySem.W.Frag) : Bool := He.eqO (PySem.W.findIn K (.ref (He.ga K c)) "__call__") (some (some (.ref (He.ma K (He.ga K c) "__call__")))) && (PySem.W.isFn K (.ref (He.ma K (He.ga K c) "__call__")) && PySem.W.fnIn K (He.ma K (He.ga K c) "__call__"))
theorem callB_ok {K : PySem.W.Frag} {c : Str} (h : callB c K = true) : StX.CallO K (He.ga K c) (He.ma K (He.ga K c) "__call__") := by
  obtain ⟨h1, h⟩ := He.ba h
  obtain ⟨h2, h3⟩ := He.ba h
  exact ⟨He.eqO_ok h1, h2, h3⟩
section
variable {P : Program} {w : World} {K : PySem.W.Frag} {mg : Str → Option Value} {base : Heap} {x q : Str} {st : Stmt} {dvs dv2 : List V} {g : Addr} {dd : List D}
def FdW (K : PySem.W.Frag) (x q : Str) (st : Stmt) (dvs : List V) (g : Addr) : Prop := ∃ fd, FunD K x q (defArgs st) (defBody st) (defScope st) dvs [] g fd
theorem knD_ok {N ps : List Str} {k : Nat} {m : MS} (F : FdW K x q st dvs g) (Sc : FnScope N ps (defScope st))
    (hbn : ∀ fd, FunD K x q (defArgs st) (defBody st) (defScope st) dvs [] g fd → ∃ ds, Vals dv2 ds ∧ Binds K fd ps ds) (hD : ∀ G, Reps K G dv2 dd)
    (hb : ∀ (cdv : Value) (A : Around) (outer : List Env) (s : Shared) (H : Hp) (E : XK), Room k (A.deeper (PyProof.Rows.envOfC q (defScope st) s.heap.objs.size g cdv)) →
      L2N.Takes (cxOf (L2N.CX P w) P w K mg base N q (defScope st) g cdv A outer s H E) (fun c d _ H => E c d H) → PassesOwn (model P w) (A.deeper (PyProof.Rows.envOfC q (defScope st) s.heap.objs.size g cdv)) (PyProof.Rows.envOfC q (defScope st) s.heap.objs.size g cdv) (cxOf (L2N.CX P w) P w K mg base N q (defScope st) g cdv A outer s H E).xe →
      (A.deeper (PyProof.Rows.envOfC q (defScope st) s.heap.objs.size g cdv)).units + 64 < cLine → (A.deeper (PyProof.Rows.envOfC q (defScope st) s.heap.objs.size g cdv)).units + 1 < cLine →
      JSs (cxOf (L2N.CX P w) P w K mg base N q (defScope st) g cdv A outer s H E) (fun c d _ H => E c d H) (defBody st) m) :
    KnD P w K mg base g (k + 1) ps (fnM N.length m) dd := by
  obtain ⟨fd, F⟩ := F
  obtain ⟨ds, h1, h2⟩ := hbn fd F
  refine ⟨fd, dv2, ds, fn_ok F Sc fun cdv A outer s H E hr => ?_, h2, h1, hD⟩
  exact hb cdv A outer s H E hr (L2N.takes_of rfl rfl rfl rfl) (passes_of (X := cxOf (L2N.CX P w) P w K mg base N q (defScope st) g cdv A outer s H E) rfl) (by have := hr.un; omega) (by have := hr.un; omega)
/-- all are handed in -/
theorem bd_none {ps : List Str} {fd : FuncData} (F : FunD K x q (defArgs st) (defBody st) (defScope st) [] [] g fd)
    (h : ∀ (kV doc pm : Value) (an : Option Addr) (cdv ct : Value) (us : List Value), us.length = ps.length → bindArgs (PySem.W.fnOf x q (defArgs st) (defBody st) (defScope st) .none kV doc pm an cdv ct) ⟨us, []⟩ = pure (ps.zip us)) : ∃ ds, Vals [] ds ∧ Binds K fd ps ds := ⟨[], .nil, F.bindsN h⟩
theorem bd_full {ps : List Str} {fd : FuncData} {d0 : V} (F : FunD K x q (defArgs st) (defBody st) (defScope st) [d0] [] g fd)
    (h : ∀ (T : Addr) (kV doc pm : Value) (an : Option Addr) (cdv ct : Value) (us its : List Value), us.length = ps.length → its.length = 1 →
      ∃ k, bindArgs (PySem.W.fnOf x q (defArgs st) (defBody st) (defScope st) (.ref T) kV doc pm an cdv ct) ⟨us, []⟩ = seqItems? (.ref T) >>= k ∧ k (some its.toArray) = pure (ps.zip (us ++ its.drop 1))) : ∃ ds, Vals [] ds ∧ Binds K fd ps ds := by
  obtain ⟨ds, h1, h2⟩ := F.binds1 ps.length 1 (by simp) (by simp) h
  exact ⟨ds, h1, h2⟩
/-- the last one is not handed in -/
theorem bd_less {ps : List Str} {fd : FuncData} {d0 : V} {n : Nat} (F : FunD K x q (defArgs st) (defBody st) (defScope st) [d0] [] g fd) (hn : n + 1 = ps.length)
    (h : ∀ (T : Addr) (kV doc pm : Value) (an : Option Addr) (cdv ct : Value) (us its : List Value), us.length = n → its.length = 1 →
      ∃ k, bindArgs (PySem.W.fnOf x q (defArgs st) (defBody st) (defScope st) (.ref T) kV doc pm an cdv ct) ⟨us, []⟩ = seqItems? (.ref T) >>= k ∧ k (some its.toArray) = pure (ps.zip (us ++ its.drop 0))) : ∃ ds, Vals [d0] ds ∧ Binds K fd ps ds := by
  obtain ⟨ds, h1, h2⟩ := F.binds1 n 0 (by simp) (by simpa using hn) h
  exact ⟨ds, h1, h2⟩
theorem KnM.d {c m : Str} {k : Nat} {ps : List Str} {fn : Fn} (h : KnM P w K mg base c m k ps fn) : KnD P w K mg base (He.ma K (He.ga K c) m) k ps fn [] := by
  obtain ⟨fd, F, hb⟩ := h
  exact ⟨fd, [], [], F, hb, .nil, fun _ => .nil⟩
end
theorem dflI_ok {K : PySem.W.Frag} (i : Int) : ∀ G, Reps K G [V.int i] [.int i] := fun _ => .cons (.int i) .nil
end DL
namespace DL
open PySem PySem.Spec L2
def ut : D → D
  | .kt ds => .tup ds
  | d => d
def fNeK (d e : D) : Option D := fNe (ut d) (ut e)
end DL
namespace DL
open PySem PySem.Spec L2
end DL
namespace LC
open DL
noncomputable section
def m_row_value : MS := (mSeq (mSet 2 (mC (.int 0)))
  (mSeq (mSet 3 (mC (.int 1)))
  (mSeq (mFor (mEnum (mVar 0)) (gTp 2 (gsCons (gNm 4) (gsCons (gNm 5) gsNil))) (mSeq (mSet 2 (mBin fAdd (mVar 2) (mBin fMul (mVar 5) (mVar 3))))
  (mSet 3 (mBin iDiv (mBin fMul (mVar 3) (mBin iSub (mVar 1) (mVar 4))) (mBin fAdd (mVar 4) (mC (.int 1)))))))
  (mRet (mVar 2)))))
def f_row_value : Fn := fnM 6 m_row_value
def m_trimmed : MS := (mSeq (mSet 1 (mUn fLen (mLook 0)))
  (mSeq (mWhile (mAndT (mBl (mBin iGt (mVar 1) (mC (.int 0)))) (mBl (mBin fEq (mIxN 0 (mBin iSub (mVar 1) (mC (.int 1)))) (mC (.int 0))))) (mSet 1 (mBin iSub (mVar 1) (mC (.int 1)))))
  (mRet (mUn fTuple (mSlN 0 mNoP (mPart (mVar 1)))))))
def f_trimmed : Fn := fnM 2 m_trimmed
def m_row_moved : MS := (mRet (mCall f_trimmed (mCons (mFz (mLc (mRng rng1 (mCons (mUn fLen (mLook 0)) mNil)) (gNm 2) mYes (mCall f_row_value (mCons (mSlN 0 (mPart (mVar 2)) mNoP) (mCons (mVar 1) mNil))) [2])) mNil)))
def f_row_moved : Fn := fnM 3 m_row_moved
def m_falling_row : MS := (mSeq (mSet 2 (mC (.int 1)))
  (mSeq (mFor (mRng rng1 (mCons (mVar 0) mNil)) (gNm 3) (mSet 2 (mBin fMul (mVar 2) (mBin fAdd (mVar 3) (mC (.int 1))))))
  (mRet (mCall f_row_moved (mCons (mBin fAdd (mBin fMulT (mTup (mCons (mC (.int 0)) mNil)) (mVar 0)) (mTup (mCons (mVar 2) mNil))) (mCons (mUn iNeg (mVar 1)) mNil))))))
def f_falling_row : Fn := fnM 4 m_falling_row
def m_whole_list : MS := (mRet (mAnd (mUn (fIsiA ["list", "tuple"]) (mVar 0)) (mUn fAll (mFz (mLc (mIt (mVar 0)) (gNm 1) mYes (mCall f_is_whole (mCons (mVar 1) mNil)) [1])))))
def f_whole_list : Fn := fnM 2 m_whole_list
def m_Size___init__ : MS := (mSeq (mIfS (mNotT (mTru (mCall f_whole_list (mCons (mVar 1) mNil)))) (mRaise "BadValue" "shown" (mVar 1)) mPass)
  (mSetF "Size" "row" (mVar 0) (mCall f_trimmed (mCons (mVar 1) mNil))))
def f_Size___init__ : Fn := fnM 2 m_Size___init__
def m__law_cut : MS := (mSeq (mSet 1 (mUn fLen (mLook 0)))
  (mSeq (mWhile (mAndT (mBl (mBin iGt (mVar 1) (mC (.int 0)))) (mBl (mBin fEq (mIxN 0 (mBin iSub (mVar 1) (mC (.int 1)))) (mC (.int 0))))) (mSet 1 (mBin iSub (mVar 1) (mC (.int 1)))))
  (mRet (mUn fTuple (mSlN 0 mNoP (mPart (mVar 1)))))))
def f__law_cut : Fn := fnM 2 m__law_cut
def m__law_row_of : MS := (mSeq (mParFF 1 2 (mUnF itD (mLook 0)) (mLst mNil))
  (mSeq (mWhile (mBl (mNeV 1 (mFz (mLst mNil)))) (mSeq (mExpr (mApp 2 (mIxN 1 (mC (.int 0)))))
  (mOwn 1 (mLc (mRng rng1 (mCons (mBin iSub (mUn fLen (mLook 1)) (mC (.int 1))) mNil)) (gNm 3) mYes (mBin iSub (mIxN 1 (mBin fAdd (mVar 3) (mC (.int 1)))) (mIxN 1 (mVar 3))) [3]))))
  (mRet (mCall f__law_cut (mCons (mVar 2) mNil)))))
def f__law_row_of : Fn := fnM 4 m__law_row_of
def m__law_falling_row : MS := (mSeq (mOwn 2 (mLst mNil))
  (mSeq (mFor (mRng rng1 (mCons (mBin fAdd (mVar 0) (mC (.int 1))) mNil)) (gNm 3) (mSeq (mSet 4 (mC (.int 1)))
  (mSeq (mFor (mRng rng1 (mCons (mVar 0) mNil)) (gNm 5) (mSet 4 (mBin fMul (mVar 4) (mBin iSub (mBin iSub (mVar 3) (mVar 1)) (mVar 5)))))
  (mExpr (mApp 2 (mVar 4))))))
  (mRet (mCall f__law_row_of (mCons (mVar 2) mNil)))))
def f__law_falling_row : Fn := fnM 6 m__law_falling_row
def m__law_size_is : MS := (mSeq (mSet 2 (mFld "Size" "row" (mVar 0)))
  (mRet (mAnd (mUn (fIsi "tuple") (mLook 2)) (mAnd (mBin fEq (mVar 2) (mVar 1)) (mUn fAll (mFz (mLc (mIt (mVar 2)) (gNm 3) mYes (mCall f__law_whole (mCons (mVar 3) mNil)) [3])))))))
def f__law_size_is : Fn := fnM 4 m__law_size_is
def m_Size_falling : MS := (mSeq (mIfS (mOrT (mNotT (mTru (mCall f_is_whole (mCons (mVar 0) mNil)))) (mBl (mBin iLt (mVar 0) (mC (.int 0))))) (mRaise "BadValue" "shown" (mVar 0)) mPass)
  (mSeq (mIfS (mNotT (mTru (mCall f_is_whole (mCons (mVar 1) mNil)))) (mRaise "BadValue" "shown" (mVar 1)) mPass)
  (mRet (mMake "Size" f_Size___init__ (mCons (mCall f_falling_row (mCons (mVar 0) (mCons (mVar 1) mNil))) mNil)))))
def f_Size_falling : Fn := fnM 2 m_Size_falling
def m_Size___call__ : MS := (mSeq (mIfS (mNotT (mTru (mCall f_is_whole (mCons (mVar 1) mNil)))) (mRaise "BadValue" "shown" (mVar 1)) mPass)
  (mRet (mCall f_row_value (mCons (mFld "Size" "row" (mVar 0)) (mCons (mVar 1) mNil)))))
def f_Size___call__ : Fn := fnM 2 m_Size___call__
def m__law_choose : MS := (mSeq (mAsg (gTL 2 (gsCons (gNm 2) (gsCons (gNm 3) gsNil))) (mTup (mCons (mC (.int 1)) (mCons (mC (.int 1)) mNil))))
  (mSeq (mFor (mRng rng1 (mCons (mVar 1) mNil)) (gNm 4) (mPar 2 3 (mCons (mBin fMul (mVar 2) (mBin iSub (mVar 0) (mVar 4))) (mCons (mBin fMul (mVar 3) (mBin fAdd (mVar 4) (mC (.int 1)))) mNil))))
  (mRet (mBin iDiv (mVar 2) (mVar 3)))))
def f__law_choose : Fn := fnM 5 m__law_choose
def m__law_at : MS := (mRet (mUn fSum (mFz (mLc (mRng rng1 (mCons (mUn fLen (mLook 0)) mNil)) (gNm 2) mYes (mBin fMul (mIxN 0 (mVar 2)) (mCall f__law_choose (mCons (mVar 1) (mCons (mVar 2) mNil)))) [2]))))
def f__law_at : Fn := fnM 3 m__law_at
def m_differences : MS := (mSeq (mOwn 1 (mLst mNil))
  (mSeq (mOwn 2 (mUnF itD (mLook 0)))
  (mSeq (mWhile (mBl (mBin iGt (mUn fLen (mLook 2)) (mC (.int 0)))) (mSeq (mExpr (mApp 1 (mIxN 2 (mC (.int 0)))))
  (mOwn 2 (mLc (mRng rng1 (mCons (mBin iSub (mUn fLen (mLook 2)) (mC (.int 1))) mNil)) (gNm 3) mYes (mBin iSub (mIxN 2 (mBin fAdd (mVar 3) (mC (.int 1)))) (mIxN 2 (mVar 3))) [3]))))
  (mRet (mCall f_trimmed (mCons (mVar 1) mNil))))))
def f_differences : Fn := fnM 4 m_differences
def m_Size_through : MS := (mSeq (mIfS (mNotT (mTru (mCall f_is_whole (mCons (mVar 1) mNil)))) (mRaise "BadValue" "shown" (mVar 1)) mPass)
  (mSeq (mIfS (mNotT (mTru (mCall f_whole_list (mCons (mVar 2) mNil)))) (mRaise "BadValue" "shown" (mVar 2)) mPass)
  (mRet (mCls 0 "Size" f_Size___init__ (mCons (mCall f_row_moved (mCons (mCall f_differences (mCons (mVar 2) mNil)) (mCons (mUn iNeg (mVar 1)) mNil))) mNil)))))
def f_Size_through : Fn := fnM 3 m_Size_through
def m__law_far : MS := (mSeq (mSet 1 (mCall f__law_draw (mCons (mVar 0) (mCons (mC (.int 5)) mNil))))
  (mSeq (mIfS (mBl (mBin iLt (mVar 1) (mC (.int 3)))) (mRet (mCall f__law_draw (mCons (mVar 0) (mCons (mC (.int 14)) mNil)))) mPass)
  (mRet (mIf (mBl (mBin fEq (mVar 1) (mC (.int 3)))) (mCall f__law_great (mCons (mVar 0) (mCons (mBin iPow (mC (.int 10)) (mC (.int 60))) mNil))) (mBin iSub (mBin fMul (mBin iPow (mC (.int 10)) (mC (.int 50))) (mBin iPow (mC (.int 10)) (mC (.int 50)))) (mCall f__law_draw (mCons (mVar 0) (mCons (mC (.int 3)) mNil))))))))
def f__law_far : Fn := fnM 2 m__law_far
def m_Size_degree : MS := (mRet (mBin iSub (mUn fLen (mFld "Size" "row" (mVar 0))) (mC (.int 1))))
def f_Size_degree : Fn := fnM 1 m_Size_degree
def m__law_row : MS := (mRet (mFz (mBinF lAddL (mFz (mLc (mRng rng1 (mCons (mCall f__law_draw (mCons (mVar 0) (mCons (mVar 1) mNil))) mNil)) (gNm 2) mYes (mCall f__law_integer (mCons (mVar 0) mNil)) [2])) (mFz (mBinF lRepL (mFz (mLst (mCons (mC (.int 0)) mNil))) (mBin iDiv (mCall f__law_draw (mCons (mVar 0) (mCons (mC (.int 4)) mNil))) (mC (.int 2))))))))
def f__law_row : Fn := fnM 3 m__law_row
end
end LC
namespace DL
open PySem PySem.Spec L2
def zip2D : List D → List D → List D
  | x :: xs, y :: ys => .tup [x, y] :: zip2D xs ys
  | _, _ => []
theorem zip2D_get : ∀ {xs ys : List D} {i : Nat} {d : D}, (zip2D xs ys)[i]? = some d → ∃ a b, xs[i]? = some a ∧ ys[i]? = some b ∧ d = .tup [a, b]
  | x :: xs, y :: ys, 0, d, h => by simp [zip2D] at h; exact ⟨x, y, rfl, rfl, h.symm⟩
  | x :: xs, y :: ys, i + 1, d, h => by
    obtain ⟨a, b, h1, h2, h4⟩ := zip2D_get (xs := xs) (ys := ys) (i := i) (d := d) (by simpa [zip2D] using h)
    exact ⟨a, b, by simpa using h1, by simpa using h2, h4⟩
  | [], _, _, _, h => by simp [zip2D] at h
  | _ :: _, [], _, _, h => by simp [zip2D] at h
theorem zip2D_len : ∀ (xs ys : List D), (zip2D xs ys).length = min xs.length ys.length
  | x :: xs, y :: ys => by simp only [zip2D, List.length_cons, zip2D_len xs ys]; omega
  | [], _ => by simp [zip2D]
  | _ :: _, [] => by simp [zip2D]
theorem itz2_r {K : PySem.W.Frag} {G : Gh} {a b : Addr} {vs us : List V} {xs ys : List D} (h : SqL K G.F a vs) (h' : SqL K G.F b us) (rs : Reps K G vs xs) (rs' : Reps K G us ys) : ItR K (Itz K a b) G (zip2D xs ys) where
  go := fun pn w r g i hi => by
    rw [zip2D_len, ← rs.length, ← rs'.length] at hi
    have e := fun b o q => r.ex b o (g.f b o q)
    exact ⟨vs, us, vs[i]'(by omega), us[i]'(by omega), sqL_mono e h, sqL_mono e h', List.getElem?_eq_getElem _, List.getElem?_eq_getElem _⟩
  yld := fun pn w r g i d x H' hd hy => by
    have e := fun b o q => r.ex b o (g.f b o q)
    obtain ⟨T, x, y, rfl, hT, rfl, y1, y2⟩ := hy
    obtain ⟨d1, d2, q1, q2, rfl⟩ := zip2D_get hd
    obtain ⟨v1, k1, p1⟩ := rs.get q1
    obtain ⟨v2, k2, p2⟩ := rs'.get q2
    have z1 := y1 vs (sqL_mono e h)
    have z2 := y2 us (sqL_mono e h')
    rw [k1] at z1
    rw [k2] at z2
    cases z1; cases z2
    have hn := r.noF hT
    have gg := g.trans (gle_upd (o := .tup [x, y]) hn)
    exact ⟨_, gle_upd hn, r.new hT, .tup upd_same (.cons (p1.mono gg) (.cons (p2.mono gg) .nil))⟩
  stop := fun pn w r g i hi => by
    rw [zip2D_len, ← rs.length, ← rs'.length] at hi
    have e := fun b o q => r.ex b o (g.f b o q)
    exact ⟨vs, us, sqL_mono e h, sqL_mono e h', by omega⟩
def mZip2 (m : MA) : MA := bnd m fun ds s => match ds with
  | [a, b] => (match lsD a, lsD b with
    | some x, some y => .ok (zip2D x y) s
    | _, _ => .stuck)
  | _ => .stuck
def minI : List Int → Int
  | [] => 0
  | [a] => a
  | a :: b :: r => min a (minI (b :: r))
def fMinL : D → Option D
  | .lst ds => (intsD? ds).bind fun ns => if ns.isEmpty then none else some (.int (minI ns))
  | _ => none
end DL
namespace DL
open PySem PySem.Spec L2
def mCmpU (c : Str) (fn rn : Fn) (a b : ME) : ME := bnd a fun x => bnd b fun y s => match insAt c s x with
  | some _ => if tyK c s y then okO s (fn [x, y] s.st) else .stuck
  | none => (match x, insAt c s y with
    | .int _, some _ => okO s (rn [y, x] s.st)
    | _, _ => .stuck)
end DL
namespace DL
open PySem PySem.Spec L2
section
variable {X : Cx} {W : WX} {elt tg iter tg1 iter1 : Expr} {ifs ifs1 : List Expr} {scope : Scope} {own : List (Str × Nat)} {pos : Pos} {it it1 : MA} {g g1 : MG} {t t1 : MT} {m : ME} {ix ix1 : List Nat}
theorem js_lc2 {i : Nat} {y : Str} {py spos : Pos} (hc : X.calm = true) (hN : X.N.Nodup) (hy : X.N[i]? = some y) (hyl : X.env.scope.names.lookup y = some .local)
    (hsw : swapsWith (.ListComp elt [⟨tg, iter, ifs, 0⟩, ⟨tg1, iter1, ifs1, 0⟩] scope pos) (some (.Name y py)) spos.line X.env = pure true) (hi : JI X W tg iter it) (ok : BlkOk X.N X.env.scope scope own)
    (hg : ∀ (s : Shared) (H : Hp) (C : Addr) (cl : List (Str × Addr)) (fp : List Addr), JG (X.blk s H scope (compEnvC scope cl C X.env) fp) tg g ix) (ht : ∀ (s : Shared) (H : Hp) (C : Addr) (cl : List (Str × Addr)) (fp : List Addr), JTs (X.blk s H scope (compEnvC scope cl C X.env) fp) WF ifs t)
    (hi1 : ∀ (s : Shared) (H : Hp) (C : Addr) (cl : List (Str × Addr)) (fp : List Addr), JI (X.blk s H scope (compEnvC scope cl C X.env) fp) WF tg1 iter1 it1)
    (hg1 : ∀ (s : Shared) (H : Hp) (C : Addr) (cl : List (Str × Addr)) (fp : List Addr), JG (X.blk s H scope (compEnvC scope cl C X.env) fp) tg1 g1 ix1) (ht1 : ∀ (s : Shared) (H : Hp) (C : Addr) (cl : List (Str × Addr)) (fp : List Addr), JTs (X.blk s H scope (compEnvC scope cl C X.env) fp) WF ifs1 t1)
    (he : ∀ (s : Shared) (H : Hp) (C : Addr) (cl : List (Str × Addr)) (fp : List Addr), JE (X.blk s H scope (compEnvC scope cl C X.env) fp) WF elt m) (hix : ∀ i ∈ ix, i ∈ own.map (·.2) := by decide) (hv1 : ∀ i ∈ ix1, i ∈ own.map (·.2) := by decide)
    (hs : ∀ x, foldedSetIterable iter X.env x = pure x := by intro _; rfl) (hs1 : ∀ env x, foldedSetIterable iter1 env x = pure x := by intro _ _; rfl) :
    JS X W (.Assign [.Name y py] (.ListComp elt [⟨tg, iter, ifs, 0⟩, ⟨tg1, iter1, ifs1, 0⟩] scope pos) spos) (mOwn i (mLc2 it g t it1 g1 t1 m (own.map (·.2)) ix1)) := by
  have hgx : ∀ d l, g d = some l → ∀ p ∈ l, p.1 ∈ ix := (hg (X.s_0) (X.H_0) 0 [] []).ix
  have hgx1 : ∀ d l, g1 d = some l → ∀ p ∈ l, p.1 ∈ ix1 := (hg1 (X.s_0) (X.H_0) 0 [] []).ix
  refine PS.imp (ps_setLc2 (vs1 := ix1) (g := tTg X.K g) (tt := tG X.K [] WF AB t) (wi1 := tG X.K [] WF (AI X.K) it1) (g1 := tTg X.K g1) (tt1 := tG X.K [] WF AB t1) (te := tG X.K [] WF (AR X.K) m) hc hN hy hyl hsw hi ok hv1 (fun s H C cl fp => (hg s H C cl fp).pg) (fun s H C cl fp => ht s H C cl fp) (fun s H C cl fp => hi1 s H C cl fp) (fun s H C cl fp => (hg1 s H C cl fp).pg) (fun s H C cl fp => ht1 s H C cl fp) (fun s H C cl fp => he s H C cl fp) hs hs1) fun D σ H h => ?_
  obtain ⟨w, rfl, rfl, r, h⟩ := h
  refine lc2_run hv1 hix hgx (fun i hi => hi) hgx1 ?_
  refine runS r h fun d s' G' v H' g r' p h' => ?_
  exact h' G' _ H' (.refl _) (r'.setOwn (i := i) p)
end
end DL
namespace LC
open DL
noncomputable section
def m_negated : MS := (mRet (mUn fTuple (mFz (mLc (mIt (mVar 0)) (gNm 1) mYes (mUn iNeg (mVar 1)) [1]))))
def f_negated : Fn := fnM 2 m_negated
def m_add_rows : MS := (mSeq (mSet 2 (mIf (mBl (mBin iGt (mUn fLen (mLook 0)) (mUn fLen (mLook 1)))) (mUn fLen (mLook 0)) (mUn fLen (mLook 1))))
  (mSeq (mOwn 3 (mBinF lAddL (mFz (mUnF itD (mLook 0))) (mFz (mBinF lRepL (mFz (mLst (mCons (mC (.int 0)) mNil))) (mBin iSub (mVar 2) (mUn fLen (mLook 0)))))))
  (mSeq (mOwn 4 (mBinF lAddL (mFz (mUnF itD (mLook 1))) (mFz (mBinF lRepL (mFz (mLst (mCons (mC (.int 0)) mNil))) (mBin iSub (mVar 2) (mUn fLen (mLook 1)))))))
  (mRet (mCall f_trimmed (mCons (mFz (mLc (mRng rng1 (mCons (mVar 2) mNil)) (gNm 5) mYes (mBin fAdd (mIxN 3 (mVar 5)) (mIxN 4 (mVar 5))) [5])) mNil))))))
def f_add_rows : Fn := fnM 6 m_add_rows
def m_take_rows : MS := (mRet (mCall f_add_rows (mCons (mVar 0) (mCons (mCall f_negated (mCons (mVar 1) mNil)) mNil))))
def f_take_rows : Fn := fnM 2 m_take_rows
def m_joined_signs : MS := (mSeq (mOwn 1 (mLst mNil))
  (mSeq (mFor (mIt (mVar 0)) (gTp 3 (gsCons (gNm 2) (gsCons (gNm 3) (gsCons (gNm 4) gsNil)))) (mIfS (mAndT (mBl (mBin iGt (mUn fLen (mLook 1)) (mC (.int 0)))) (mBl (mBin fEq (mBin ixD (mIxN 1 (mUn iNeg (mC (.int 1)))) (mC (.int 2))) (mVar 4)))) (mSetIx 1 (mUn iNeg (mC (.int 1))) (mTup (mCons (mBin ixD (mIxN 1 (mUn iNeg (mC (.int 1)))) (mC (.int 0))) (mCons (mVar 3) (mCons (mVar 4) mNil))))) (mExpr (mApp 1 (mTup (mCons (mVar 2) (mCons (mVar 3) (mCons (mVar 4) mNil))))))))
  (mRet (mVar 1))))
def f_joined_signs : Fn := fnM 5 m_joined_signs
def m_first_from : MS := (mSeq (mIfS (mBl (mBin fIsN (mVar 3) (mC .non))) (mSeq (mSet 4 (mC (.int 1)))
  (mSeq (mWhile (mBl (mBin iLt (mBin fMul (mVar 1) (mCall f_row_value (mCons (mVar 0) (mCons (mBin fAdd (mVar 2) (mVar 4)) mNil)))) (mC (.int 0)))) (mSet 4 (mBin fMul (mVar 4) (mC (.int 2)))))
  (mSet 3 (mBin fAdd (mVar 2) (mVar 4))))) mPass)
  (mSeq (mWhile (mBl (mBin iLe (mVar 2) (mVar 3))) (mSeq (mSet 5 (mBin iDiv (mBin fAdd (mVar 2) (mVar 3)) (mC (.int 2))))
  (mIfS (mBl (mBin iLt (mBin fMul (mVar 1) (mCall f_row_value (mCons (mVar 0) (mCons (mVar 5) mNil)))) (mC (.int 0)))) (mSet 2 (mBin fAdd (mVar 5) (mC (.int 1)))) (mSet 3 (mBin iSub (mVar 5) (mC (.int 1)))))))
  (mRet (mVar 2))))
def f_first_from : Fn := fnM 6 m_first_from
def m_sign_of : MS := (mRet (mBin iSub (mUn fInt (mBin iGt (mVar 0) (mC (.int 0)))) (mUn fInt (mBin iLt (mVar 0) (mC (.int 0))))))
def f_sign_of : Fn := fnM 1 m_sign_of
def m_cut_by_sign : MS := (mSeq (mIfS (mBl (mBin fEq (mVar 3) (mC (.int 0)))) (mRet (mFz (mLst (mCons (mTup (mCons (mVar 1) (mCons (mVar 2) (mCons (mCall f_sign_of (mCons (mCall f_row_value (mCons (mVar 0) (mCons (mVar 1) mNil))) mNil)) mNil)))) mNil)))) mPass)
  (mSeq (mSet 4 (mCall f_first_from (mCons (mVar 0) (mCons (mVar 3) (mCons (mVar 1) (mCons (mVar 2) mNil))))))
  (mSeq (mIfS (mAndT (mBl (mBin fNotN (mVar 2) (mC .non))) (mBl (mBin iGt (mVar 4) (mVar 2)))) (mRet (mFz (mLst (mCons (mTup (mCons (mVar 1) (mCons (mVar 2) (mCons (mUn iNeg (mVar 3)) mNil)))) mNil)))) mPass)
  (mSeq (mSet 5 (mBin fAdd (mVar 4) (mUn fInt (mBin fEq (mCall f_row_value (mCons (mVar 0) (mCons (mVar 4) mNil))) (mC (.int 0))))))
  (mSeq (mOwn 6 (mLst (mCons (mTup (mCons (mVar 1) (mCons (mBin iSub (mVar 4) (mC (.int 1))) (mCons (mUn iNeg (mVar 3)) mNil)))) (mCons (mTup (mCons (mVar 4) (mCons (mBin iSub (mVar 5) (mC (.int 1))) (mCons (mC (.int 0)) mNil)))) (mCons (mTup (mCons (mVar 5) (mCons (mVar 2) (mCons (mVar 3) mNil)))) mNil)))))
  (mRet (mFz (mLc (mIt (mVar 6)) (gNm 7) (mOrT (mBl (mBin fIsN (mIxN 7 (mC (.int 1))) (mC .non))) (mBl (mBin iLe (mIxN 7 (mC (.int 0))) (mIxN 7 (mC (.int 1)))))) (mVar 7) [7]))))))))
def f_cut_by_sign : Fn := fnM 8 m_cut_by_sign
def m_signs_of : MS := (mSeq (mOwn 3 (mLst (mCons (mTup (mCons (mVar 1) (mCons (mVar 2) (mCons (mC (.int 0)) mNil)))) mNil)))
  (mSeq (mFor (mRng rng3 (mCons (mBin iSub (mUn fLen (mLook 0)) (mC (.int 1))) (mCons (mUn iNeg (mC (.int 1))) (mCons (mUn iNeg (mC (.int 1))) mNil)))) (gNm 4) (mSeq (mOwn 5 (mLc2 (mIt (mVar 3)) (gTp 3 (gsCons (gNm 6) (gsCons (gNm 7) (gsCons (gNm 8) gsNil)))) mYes (mIt (mCall f_cut_by_sign (mCons (mSlN 0 (mPart (mVar 4)) mNoP) (mCons (mVar 6) (mCons (mVar 7) (mCons (mVar 8) mNil)))))) (gNm 9) mYes (mVar 9) [6, 7, 8, 9] [9]))
  (mSet 3 (mCall f_joined_signs (mCons (mVar 5) mNil)))))
  (mRet (mVar 3))))
def f_signs_of : Fn := fnM 10 m_signs_of
def m_least_sign : MS := (mRet (mUn fMinL (mFz (mLc (mIt (mCall f_signs_of (mCons (mVar 0) (mCons (mC (.int 0)) (mCons (mC .non) mNil))))) (gNm 1) mYes (mUn fInt (mIxN 1 (mC (.int 2)))) [1]))))
def f_least_sign : Fn := fnM 2 m_least_sign
def m_whole_row : MS := (mRet (mCall f_trimmed (mCons (mFz (mLst (mCons (mVar 0) mNil))) mNil)))
def f_whole_row : Fn := fnM 1 m_whole_row
def m_row_of : MS := (mSeq (mIfS (mTru (mIsC "Size" (mLook 0))) (mRet (mFld "Size" "row" (mVar 0))) mPass)
  (mSeq (mIfS (mTru (mCall f_is_whole (mCons (mVar 0) mNil))) (mRet (mCall f_whole_row (mCons (mVar 0) mNil))) mPass)
  (mRet (mC .non))))
def f_row_of : Fn := fnM 1 m_row_of
def m_Size___ge__ : MS := (mSeq (mSet 2 (mCall f_row_of (mCons (mVar 1) mNil)))
  (mSeq (mIfS (mBl (mBin fIsN (mVar 2) (mC .non))) stk mPass)
  (mRet (mBin iGe (mCall f_least_sign (mCons (mCall f_take_rows (mCons (mFld "Size" "row" (mVar 0)) (mCons (mVar 2) mNil))) mNil)) (mC (.int 0))))))
def f_Size___ge__ : Fn := fnM 3 m_Size___ge__
def m_Size___le__ : MS := (mSeq (mSet 2 (mCall f_row_of (mCons (mVar 1) mNil)))
  (mSeq (mIfS (mBl (mBin fIsN (mVar 2) (mC .non))) stk mPass)
  (mRet (mBin iGe (mCall f_least_sign (mCons (mCall f_take_rows (mCons (mVar 2) (mCons (mFld "Size" "row" (mVar 0)) mNil))) mNil)) (mC (.int 0))))))
def f_Size___le__ : Fn := fnM 3 m_Size___le__
def m_Size___gt__ : MS := (mSeq (mSet 2 (mCall f_row_of (mCons (mVar 1) mNil)))
  (mSeq (mIfS (mBl (mBin fIsN (mVar 2) (mC .non))) stk mPass)
  (mRet (mBin iGt (mCall f_least_sign (mCons (mCall f_take_rows (mCons (mFld "Size" "row" (mVar 0)) (mCons (mVar 2) mNil))) mNil)) (mC (.int 0))))))
def f_Size___gt__ : Fn := fnM 3 m_Size___gt__
def m_Size___lt__ : MS := (mSeq (mSet 2 (mCall f_row_of (mCons (mVar 1) mNil)))
  (mSeq (mIfS (mBl (mBin fIsN (mVar 2) (mC .non))) stk mPass)
  (mRet (mBin iGt (mCall f_least_sign (mCons (mCall f_take_rows (mCons (mVar 2) (mCons (mFld "Size" "row" (mVar 0)) mNil))) mNil)) (mC (.int 0))))))
def f_Size___lt__ : Fn := fnM 3 m_Size___lt__
def m__law_compares : MS := (mSeq (mOwn 3 (mLst (mCons (mUn fAll (mFz (mLc (mIt (mVar 2)) (gNm 6) mYes (mBin iLe (mVar 6) (mC (.int 0))) [6]))) (mCons (mUn fAll (mFz (mLc (mIt (mVar 2)) (gNm 6) mYes (mBin iLt (mVar 6) (mC (.int 0))) [6]))) mNil))))
  (mSeq (mOwn 3 (mBinF lAddL (mVar 3) (mFz (mLst (mCons (mUn fAll (mFz (mLc (mIt (mVar 2)) (gNm 6) mYes (mBin iGe (mVar 6) (mC (.int 0))) [6]))) (mCons (mUn fAll (mFz (mLc (mIt (mVar 2)) (gNm 6) mYes (mBin iGt (mVar 6) (mC (.int 0))) [6]))) mNil))))))
  (mSeq (mOwn 4 (mLst (mCons (mCmpO "Size" f_Size___le__ (mVar 0) (mVar 1)) (mCons (mCmpO "Size" f_Size___lt__ (mVar 0) (mVar 1)) (mCons (mCmpO "Size" f_Size___ge__ (mVar 0) (mVar 1)) (mCons (mCmpO "Size" f_Size___gt__ (mVar 0) (mVar 1)) mNil))))))
  (mSeq (mOwn 5 (mLst (mCons (mCmpU "Size" f_Size___ge__ f_Size___le__ (mVar 1) (mVar 0)) (mCons (mCmpU "Size" f_Size___gt__ f_Size___lt__ (mVar 1) (mVar 0)) (mCons (mCmpU "Size" f_Size___le__ f_Size___ge__ (mVar 1) (mVar 0)) (mCons (mCmpU "Size" f_Size___lt__ f_Size___gt__ (mVar 1) (mVar 0)) mNil))))))
  (mRet (mAnd (mBin fEq (mVar 4) (mVar 3)) (mAnd (mBin fEq (mVar 5) (mVar 3)) (mUn fAll (mFz (mLc (mIt (mBin fAdd (mVar 4) (mVar 5))) (gNm 7) mYes (mUn (fIsi "bool") (mLook 7)) [7]))))))))))
def f__law_compares : Fn := fnM 8 m__law_compares
def m_Size___eq__ : MS := (mRet (mAnd (mIsC "Size" (mLook 1)) (mBin fEq (mFld "Size" "row" (mVar 0)) (mFld "Size" "row" (mVar 1)))))
def f_Size___eq__ : Fn := fnM 2 m_Size___eq__
def m__law_thing_at : MS := (mSeq (mSet 2 (mBin fMul (mGet (mVar 0) (.inr "amount")) (mCall f__law_choose (mCons (mBin iSub (mVar 1) (mGet (mVar 0) (.inr "root"))) (mCons (mGet (mVar 0) (.inr "many")) mNil)))))
  (mSeq (mFor (mIt (mGet (mVar 0) (.inr "factors"))) (gTp 2 (gsCons (gNm 3) (gsCons (gNm 4) gsNil))) (mSet 2 (mBin fMul (mVar 2) (mBin iSub (mBin fMul (mVar 3) (mVar 1)) (mVar 4)))))
  (mRet (mVar 2))))
def f__law_thing_at : Fn := fnM 5 m__law_thing_at
def m__law_thing_row : MS := (mRet (mCall f__law_row_of (mCons (mFz (mLc (mRng rng1 (mCons (mBin fAdd (mBin fAdd (mUn fLen (mGet (mVar 0) (.inr "factors"))) (mGet (mVar 0) (.inr "many"))) (mC (.int 1))) mNil)) (gNm 1) mYes (mCall f__law_thing_at (mCons (mVar 0) (mCons (mVar 1) mNil))) [1])) mNil)))
def f__law_thing_row : Fn := fnM 2 m__law_thing_row
def m__law_plus : MS := (mSeq (mSet 2 (mMax2 (mCons (mUn fLen (mLook 0)) (mCons (mUn fLen (mLook 1)) mNil))))
  (mSeq (mParFF 3 4 (mBinF lAddL (mFz (mUnF itD (mLook 0))) (mFz (mBinF lRepL (mFz (mLst (mCons (mC (.int 0)) mNil))) (mVar 2)))) (mBinF lAddL (mFz (mUnF itD (mLook 1))) (mFz (mBinF lRepL (mFz (mLst (mCons (mC (.int 0)) mNil))) (mVar 2)))))
  (mRet (mCall f__law_cut (mCons (mFz (mLc (mRng rng1 (mCons (mVar 2) mNil)) (gNm 5) mYes (mBin fAdd (mIxN 3 (mVar 5)) (mIxN 4 (mVar 5))) [5])) mNil)))))
def f__law_plus : Fn := fnM 6 m__law_plus
def m__law_sign : MS := (mRet (mBin iSub (mUn fInt (mBin iGt (mVar 0) (mC (.int 0)))) (mUn fInt (mBin iLt (mVar 0) (mC (.int 0))))))
def f__law_sign : Fn := fnM 1 m__law_sign
def m__law_thing_signs : MS := (mSeq (mOwn 3 (mLst (mCons (mVar 1) (mCons (mGet (mVar 0) (.inr "root")) (mCons (mBin fAdd (mGet (mVar 0) (.inr "root")) (mGet (mVar 0) (.inr "many"))) mNil)))))
  (mSeq (mFor (mIt (mGet (mVar 0) (.inr "factors"))) (gTp 2 (gsCons (gNm 4) (gsCons (gNm 5) gsNil))) (mOwn 3 (mBinF lAddL (mVar 3) (mFz (mLst (mCons (mBin iDiv (mVar 5) (mVar 4)) (mCons (mBin fAdd (mBin iDiv (mVar 5) (mVar 4)) (mC (.int 1))) mNil)))))))
  (mSeq (mOwn 6 (mUnF fSrtU (mFz (mLc (mIt (mVar 3)) (gNm 8) (mAndT (mBl (mBin iGe (mVar 8) (mVar 1))) (mOrT (mBl (mBin fIsN (mVar 2) (mC .non))) (mBl (mBin iLe (mVar 8) (mVar 2))))) (mUn fInt (mLook 8)) [8]))))
  (mSeq (mOwn 7 (mBinF lAddL (mFz (mLc (mIt (mSlN 6 (mPart (mC (.int 1))) mNoP)) (gNm 8) mYes (mBin iSub (mVar 8) (mC (.int 1))) [8])) (mFz (mLst (mCons (mVar 2) mNil)))))
  (mRet (mCall f__law_joined (mCons (mFz (mLc (mZip2 (mCons (mVar 6) (mCons (mVar 7) mNil))) (gTp 2 (gsCons (gNm 9) (gsCons (gNm 10) gsNil))) mYes (mTup (mCons (mVar 9) (mCons (mVar 10) (mCons (mCall f__law_sign (mCons (mCall f__law_thing_at (mCons (mVar 0) (mCons (mVar 9) mNil))) mNil)) mNil)))) [9, 10])) mNil)))))))
def f__law_thing_signs : Fn := fnM 11 m__law_thing_signs
def m__law_thing : MS := (mSeq (mOwn 2 (mLst mNil))
  (mSeq (mFor (mRng rng1 (mCons (mCall f__law_draw (mCons (mVar 0) (mCons (mC (.int 3)) mNil))) mNil)) (gNm 3) (mSeq (mSet 4 (mCall f__law_pick (mCons (mVar 0) (mCons (mFz (mLst (mCons (mC (.int 1)) (mCons (mC (.int 1)) (mCons (mC (.int 1)) (mCons (mC (.int 2)) (mCons (mC (.int 3)) mNil))))))) mNil))))
  (mExpr (mApp 2 (mTup (mCons (mVar 4) (mCons (mBin fAdd (mBin fMul (mVar 4) (mBin iSub (mBin fAdd (mVar 1) (mCall f__law_draw (mCons (mVar 0) (mCons (mC (.int 12)) mNil)))) (mC (.int 2)))) (mCall f__law_draw (mCons (mVar 0) (mCons (mVar 4) mNil)))) mNil)))))))
  (mSeq (mIfS (mAndT (mBl (mBin fEq (mUn fLen (mLook 2)) (mC (.int 1)))) (mBl (mBin fEq (mCall f__law_draw (mCons (mVar 0) (mCons (mC (.int 3)) mNil))) (mC (.int 0))))) (mExpr (mApp 2 (mIxN 2 (mC (.int 0))))) mPass)
  (mSeq (mSet 5 (mBin fMul (mBin iSub (mC (.int 1)) (mBin fMul (mC (.int 2)) (mCall f__law_draw (mCons (mVar 0) (mCons (mC (.int 2)) mNil))))) (mCall f__law_pick (mCons (mVar 0) (mCons (mFz (mLst (mCons (mC (.int 1)) (mCons (mC (.int 1)) (mCons (mC (.int 2)) (mCons (mBin fAdd (mBin iPow (mC (.int 10)) (mC (.int 60))) (mC (.int 7))) mNil)))))) mNil)))))
  (mRet (mDict [(.inr "amount", (mVar 5)), (.inr "factors", (mVar 2)), (.inr "root", (mBin iSub (mBin fAdd (mVar 1) (mCall f__law_draw (mCons (mVar 0) (mCons (mC (.int 9)) mNil)))) (mC (.int 2)))), (.inr "many", (mCall f__law_draw (mCons (mVar 0) (mCons (mC (.int 3)) mNil))))]))))))
def f__law_thing : Fn := fnM 6 m__law_thing
end
end LC
namespace DL
open PySem PySem.Spec PySem.W PySem.Calls PyProof.Rows PySem.HandSPX
structure NPos where
  a0 : Pos
  a : List Pos
  (b1 b2 b3 b4 b5 : Pos)
  c : List (Pos × Pos × Pos × Pos)
def nArgs : List Str → List Pos → List Arg
  | f :: fs, p :: ps => { arg := f, annotation := none, pos := p } :: nArgs fs ps
  | _, _ => []
def nParams (fs : List Str) (p : NPos) : Arguments := { posonlyargs := [], args := { arg := "self", annotation := none, pos := p.a0 } :: nArgs fs p.a, vararg := none, kwonlyargs := [], kw_defaults := [], kwarg := none, defaults := [] }
def nSuper (txt : Str) (p : NPos) (p6 : Pos) : Stmt := .Expr (.Call (.Attribute (.Call (.Name "super" p.b1) [] [] p.b2) "__init__" p.b3) [.Constant (.str txt) 0 p.b4] [] p.b5) p6
def nStore (f : Str) (q : Pos × Pos × Pos × Pos) : Stmt := .Assign [.Attribute (.Name "self" q.1) f q.2.1] (.Name f q.2.2.1) q.2.2.2
def nStores : List Str → List (Pos × Pos × Pos × Pos) → List Stmt
  | f :: fs, q :: qs => nStore f q :: nStores fs qs
  | _, _ => []
def nNames (fs : List Str) : List (Str × NameKind) := (PySem.Str.ofString "self", NameKind.local) :: ((fs.map fun f => (f, NameKind.local)) ++ [(PySem.Str.ofString "__class__", .free), (PySem.Str.ofString "super", .globalImplicit)])
def nScope (fs : List Str) : Scope := { kind := .function, names := nNames fs, isGenerator := false, isCoroutine := false, more := [] }
def nBody (txt : Str) (fs : List Str) (p : NPos) (p6 : Pos) : List Stmt := nSuper txt p p6 :: nStores fs p.c
/-- what is asked of the fields' names -/
def nmB (fs : List Str) : Bool := fs.all fun f => decide (¬ f = "self") && (decide (¬ f = "super") && (decide (¬ f = "__class__") && (!(f == ("__debug__" : Str)))))
/-- what the written part says of the class at C -/
structure NC (P : Program) (K : Frag) (mg : Str → Option Value) (C : Addr) (fs : List Str) : Prop where
  ini : excInitIn K C veTail "ValueError.__new__" = true
  ref : ∃ cd, clsIn K C = some cd ∧ refsVE cd.mro = true ∧ cd.hasDict = true
  sa : findIn K (.ref C) "__setattr__" = some (some (.builtin "object.__setattr__"))
  no : ∀ f ∈ fs, findIn K (.ref C) f = some none
  kp : keepIn K (.ref C) = true
  ex : subIn K (.ref C) (.type "BaseException") = some true
  ve : subIn K (.ref C) (.type "ValueError") = some true
  ty : typeIn K (.ref C) = some (.type "type")
  sup : ks_superIn K C C "__init__" = some (some (.builtin "ValueError.__init__"))
  mro : mroIn K C (.ref C) = some true
  opq : nsIn K cStatics "thirdparty.any" = some none
  gs : mg "super" = none
  top : (P.main.scope.names.lookup ("super" : Str)).isSome = false
  fn : ∃ (fI : Addr) (oc : Value) (od : Option Addr) (doc pm : Value) (an : Option Addr) (cda : Addr) (ct : Value) (osl : Array (Option Value)) (cc : Addr) (p : NPos) (p6 : Pos) (txt q : Str), (p.b3.endLine == p.b5.line) = true ∧ p.c.length = fs.length ∧
    (∀ a vs, vs.length = fs.length → bindArgs (fnX "__init__" q (nParams fs p) (nBody txt fs p p6) (nScope fs) [("__class__", cc)] .none .none doc pm an (.ref cda) ct) ⟨a :: vs, []⟩ = pure ((("self" : Str), a) :: fs.zip vs)) ∧
    findIn K (.ref C) "__init__" = some (some (.ref fI)) ∧ typeIn K (.ref fI) = some (.type "function") ∧
    K.lookup fI = some ⟨oc, od, .func (fnX "__init__" q (nParams fs p) (nBody txt fs p p6) (nScope fs) [("__class__", cc)] .none .none doc pm an (.ref cda) ct), osl⟩ ∧ codeIn K (.ref cda) q = true ∧
    (∃ (ccl : Value) (cdd : Option Addr) (vs : Array Value) (ccs : Array (Option Value)) (file : Str) (tf : Tok), K.lookup cda = some ⟨ccl, cdd, .fields vs, ccs⟩ ∧ vs[2]? = some (.str file tf) ∧ ((P.main.file : Str) == file) = true) ∧
    ∃ (cl : Value) (cld : Option Addr) (csl : Array (Option Value)), K.lookup cc = some ⟨cl, cld, .cell (some (.ref C)), csl⟩
  nm : nmB fs = true
  nd : fs.Nodup
  ne : fs ≠ []
  few : fs.length ≤ 900
/-- the fields as they are stored, the last first -/
def fldM : List (Str × Value) → Str → Option Value
  | [] => fun _ => none
  | (f, v) :: r => fun y => if y = f then some v else fldM r y
/-- what __init__ leaves of a fresh error at x -/
structure NEnd (h h' : Heap) (x C dx t1 : Addr) (fvs : List (Str × Value)) : Prop where
  keep : ∀ b o, b ≠ x → h.get? b = some o → h'.get? b = some o
  obj : h'.get? x = some { cls := .ref C, dict := some dx, data := .fields #[.ref t1, .none, .none, .none, .bool false, .none] }
  dbig : h.objs.size ≤ dx
  dne : dx ≠ x
  ns : h'.Ns1 dx (fldM fvs)
theorem lookN {fs : List Str} {f : Str} (h : f ∈ fs) (hn : nmB fs = true) : (nScope fs).names.lookup f = some .local := by
  have n1 : ¬ f = "self" := by
    have := List.all_eq_true.mp hn f h
    simp only [Bool.and_eq_true, decide_eq_true_eq] at this
    exact this.1
  show List.lookup f ((PySem.Str.ofString "self", NameKind.local) :: ((fs.map fun f => (f, NameKind.local)) ++ _)) = _
  have e : (f == (PySem.Str.ofString "self")) = false := by simpa using n1
  rw [List.lookup, e]
  show List.lookup f ((fs.map fun f => (f, NameKind.local)) ++ [(PySem.Str.ofString "__class__", NameKind.free), (PySem.Str.ofString "super", .globalImplicit)]) = _
  clear hn
  induction fs with
  | nil => cases h
  | cons g r ih =>
    rw [List.map_cons, List.cons_append, List.lookup]
    by_cases c : f = g
    · subst c; simp
    · have e : (f == g) = false := by simpa using c
      rw [e]
      exact ih ((List.mem_cons.mp h).resolve_left c)
theorem lookT {fs : List Str} {y : Str} {k : NameKind} (h : y ∉ fs) (n1 : ¬ y = "self") (hk : List.lookup y [(PySem.Str.ofString "__class__", NameKind.free), (PySem.Str.ofString "super", .globalImplicit)] = some k) : (nScope fs).names.lookup y = some k := by
  show List.lookup y ((PySem.Str.ofString "self", NameKind.local) :: ((fs.map fun f => (f, NameKind.local)) ++ _)) = _
  have e : (y == (PySem.Str.ofString "self")) = false := by simpa using n1
  rw [List.lookup, e]
  show List.lookup y ((fs.map fun f => (f, NameKind.local)) ++ [(PySem.Str.ofString "__class__", NameKind.free), (PySem.Str.ofString "super", .globalImplicit)]) = _
  induction fs with
  | nil => exact hk
  | cons g r ih =>
    rw [List.map_cons, List.cons_append, List.lookup]
    have c : ¬ y = g := fun c => h (c ▸ List.mem_cons_self)
    have e : (y == g) = false := by simpa using c
    rw [e]
    exact ih fun m => h (List.mem_cons_of_mem _ m)
theorem nm_not {fs : List Str} (hn : nmB fs = true) : (("super" : Str) ∉ fs) ∧ ("__class__" : Str) ∉ fs ∧ ∀ f ∈ fs, ¬ f = "self" ∧ (f == ("__debug__" : Str)) = false := by
  have z : ∀ f ∈ fs, ¬ f = "self" ∧ ¬ f = "super" ∧ ¬ f = "__class__" ∧ (f == ("__debug__" : Str)) = false := fun f h => by
    have := List.all_eq_true.mp hn f h
    simp only [Bool.and_eq_true, decide_eq_true_eq, Bool.not_eq_true'] at this
    exact this
  exact ⟨fun h => (z _ h).2.1 rfl, fun h => (z _ h).2.2.1 rfl, fun f h => ⟨(z f h).1, (z f h).2.2.2⟩⟩
section
variable {prog : Program} {w : World} {A : Around} {E : Value → Shared → Prop} {s : Shared} {K : Frag} {mg : Str → Option Value} {C : Addr}
theorem px_ve : ∀ l : List Value, refsVE l = true → PySem.PX.refsVE l = true
  | .ref _ :: r, h => px_ve r h
  | [], h => h
  | .none :: _, h => h
  | .ellipsis :: _, h => h
  | .notImplemented :: _, h => h
  | .bool _ :: _, h => h
  | .int _ _ :: _, h => h
  | .float _ _ :: _, h => h
  | .str _ _ :: _, h => h
  | .bytes _ _ :: _, h => h
  | .type _ :: _, h => h
  | .builtin _ :: _, h => h
theorem fld_within : ∀ acc : List (Str × Value), PySem.Within (fldM acc) (acc.map (·.1))
  | [] => Within.nil
  | (g, u) :: r => Within.cons g u (fld_within r)
/-- self.f = f, one after the other -/
theorem n_stores {env : Env} {x dx t1 : Addr} {cd : ClassData} {loc : List (Str × Value)} {Q : Flow → Shared → Prop} (hcl : clsIn K C = some cd) (hre : refsVE cd.mro = true) (hdct : cd.hasDict = true) (sa : findIn K (.ref C) "__setattr__" = some (some (.builtin "object.__setattr__")))
    (hkd : env.scope.kind = .function) (hself : env.kindOf (PySem.Str.ofString "self") = some .local) (hlk : loc.lookup (PySem.Str.ofString "self") = some (.ref x)) (nxL : env.locals ≠ dx) (nxd : dx ≠ x) (ndK : K.lookup dx = none) :
    ∀ (fs : List Str) (vs : List Value) (qs : List (Pos × Pos × Pos × Pos)) (acc : List (Str × Value)) (s : Shared), vs.length = fs.length → qs.length = fs.length → (∀ p ∈ fs.zip vs, loc.lookup p.1 = some p.2) → (∀ f ∈ fs, env.kindOf f = some .local ∧ (f == ("__debug__" : Str)) = false ∧ findIn K (.ref C) f = some none) →
      acc.length + fs.length ≤ 1000 → K.In s.heap → s.heap.Ns env.locals (fun y => loc.lookup y) → s.heap.get? x = some { cls := .ref C, dict := some dx, data := .fields #[.ref t1, .none, .none, .none, .bool false, .none] } → s.heap.Ns1 dx (fldM acc) →
      (∀ h' tk, (∀ b o, b ≠ dx → s.heap.get? b = some o → h'.get? b = some o) → h'.Ns1 dx (fldM ((fs.zip vs).reverse ++ acc)) → Q .next { s with heap := h', toks := tk }) →
      wpAny (model prog w) A (execs (nStores fs qs) env) Q E s := by
  intro fs
  induction fs with
  | nil =>
    intro vs qs acc s h1 h2 hv hk hn X hns hx hd hq
    have : vs = [] := List.length_eq_zero_iff.mp h1
    subst this
    exact wpAny_execs_nil (hq s.heap s.toks (fun b o _ e => e) (by simpa using hd))
  | cons f fs ih =>
    intro vs qs acc s h1 h2 hv hk hn X hns hx hd hq
    match vs, qs, h1, h2 with
    | v :: vs, q :: qs, h1, h2 =>
    obtain ⟨k1, k2, k3⟩ := hk f List.mem_cons_self
    obtain ⟨hp, g, dr, tk, os⟩ := s
    show wpAny _ _ (execs (nStore f q :: nStores fs qs) env) _ _ _
    refine wpAny_execs_cons (plainObj_wpAny_Assign_Attribute ?_)
    have hvf : loc.lookup f = some v := hv (f, v) (by simp)
    refine wpAny_Name (wpAny_loadName_local hkd k1 hns (v := v) hvf ?_) k2
    refine wpAny_Name (wpAny_loadName_local hkd hself hns (v := .ref x) hlk ?_) (by decide +kernel)
    obtain ⟨oD, esD, epD, hoD, hdD, hcD⟩ := hd.count (fld_within acc)
    refine set_plain X (ox := { cls := .ref C, dict := some dx, data := .fields #[.ref t1, .none, .none, .none, .bool false, .none] }) (od := some oD) ⟨hx, rfl, rfl, hoD⟩ sa ?_
    refine PySem.PX.osa_old X hx hd (fld_within acc) (by rw [List.length_map]; simp at hn; omega) hcl (px_ve _ hre) hdct k3 (fun h5 tk5 k5 hn5 => ?_)
    refine ih vs qs ((f, v) :: acc) ⟨h5, g, dr, tk5, os⟩ (by simpa using h1) (by simpa using h2) (fun p hp => hv p (by simp [hp])) (fun y hy => hk y (List.mem_cons_of_mem _ hy)) (by simp at hn ⊢; omega) (fun a o e => k5 a o (fun z => by rw [z, ndK] at e; cases e) (X a o e)) (hns.at fun o e => k5 _ o nxL e) (k5 _ _ (Ne.symm nxd) hx) hn5 fun h' tk' k' hn' => ?_
    refine hq h' tk' (fun b o hb e => k' b o hb (k5 b o hb e)) ?_
    have e : ((f :: fs).zip (v :: vs)).reverse ++ acc = (fs.zip vs).reverse ++ (f, v) :: acc := by simp
    rw [e]
    exact hn'
theorem zip_lookupR {fs : List Str} {vs : List Value} {u : Str × Value} (nd : fs.Nodup) (hl : vs.length = fs.length) (hu : u.1 ∉ fs) : ∀ p ∈ fs.zip vs, List.lookup p.1 ((fs.zip vs).reverse ++ [u]) = some p.2 := fun p hp => by
  have hm : p ∈ (fs.zip vs).reverse ++ [u] := List.mem_append_left _ (List.mem_reverse.mpr hp)
  have key : ∀ (l : List (Str × Value)), (l.map (·.1)).Nodup → ∀ q ∈ l, List.lookup q.1 l = some q.2 := by
    intro l
    induction l with
    | nil => intro _ q hq; cases hq
    | cons a l ih =>
      intro nd q hq
      rw [List.map_cons, List.nodup_cons] at nd
      rcases List.mem_cons.mp hq with e | e
      · subst e; simp [List.lookup]
      · have ne : ¬ q.1 = a.1 := fun z => nd.1 (z ▸ List.mem_map_of_mem e)
        have e2 : (q.1 == a.1) = false := by simpa using ne
        obtain ⟨a1, a2⟩ := a
        simp only [List.lookup, e2]
        exact ih nd.2 q e
  refine key _ ?_ p hm
  have e : (fs.zip vs).map (·.1) = fs := by rw [← List.unzip_fst, List.unzip_zip (by omega)]
  rw [List.map_append, List.map_reverse, e, List.nodup_append]
  exact ⟨(List.reverse_perm fs).symm.nodup nd, by simp, fun a ha b hb z => by
    rw [List.map_cons, List.map_nil, List.mem_singleton] at hb
    subst hb; subst z
    exact hu (List.mem_reverse.mp ha)⟩
theorem zip_self {fs : List Str} {vs : List Value} {u : Value} (h : ("self" : Str) ∉ fs) : List.lookup (PySem.Str.ofString "self") ((fs.zip vs).reverse ++ [(("self" : Str), u)]) = some u := by
  have key : ∀ (l : List (Str × Value)), (("self" : Str) ∉ l.map (·.1)) → List.lookup (PySem.Str.ofString "self") (l ++ [(("self" : Str), u)]) = some u := by
    intro l
    induction l with
    | nil => intro _; rfl
    | cons a l ih =>
      intro hn
      rw [List.map_cons, List.mem_cons, not_or] at hn
      obtain ⟨a1, a2⟩ := a
      have e2 : ((PySem.Str.ofString "self") == a1) = false := by simpa using hn.1
      simp only [List.cons_append, List.lookup, e2]
      exact ih hn.2
  refine key _ fun hm => ?_
  rw [List.map_reverse, List.mem_reverse] at hm
  obtain ⟨p, hp, e⟩ := List.mem_map.mp hm
  exact h (e ▸ (List.of_mem_zip hp).1)
end
section
variable {prog : Program} {w : World} {A : Around} {R : Result → Shared → Prop} {s : Shared} {K : Frag} {mg : Str → Option Value} {C : Addr} {fs : List Str}
theorem n_init (T : NC prog K mg C fs) {x t0 fI : Addr} {vs : List Value} (hvl : vs.length = fs.length) (hfI : findIn K (.ref C) "__init__" = some (some (.ref fI))) (X : K.In s.heap) (hlim : s.heap.NoLimit) (hg : s.heap.Ns mainGlobals mg) (hb : ∃ mb, s.heap.Ns builtinsNs mb ∧ ∀ x : Str, x ≠ "__name__" → mb x = bootBuiltins x)
    (hx : s.heap.get? x = some (excO C t0)) (hnx : ∀ a, x ≤ a → K.lookup a = none) (hroom : A.depth < recursionLimit)
    (hq : ∀ h' tk dx t1, NEnd s.heap h' x C dx t1 (fs.zip vs).reverse → R (.ok (.ret .none)) { s with heap := h', toks := tk }) :
    codeAny (model prog w) A (.call (.ref fI) ⟨.ref x :: vs, []⟩) R s := by
  have hno := T.no
  have hnd := T.nd
  have hfew := T.few
  have hnm := T.nm
  have hsa := T.sa
  cases fs with
  | nil => exact absurd rfl T.ne
  | cons f fr =>
  cases vs with
  | nil => cases hvl
  | cons v vr =>
  obtain ⟨fI', oc, od, doc, pm, an, cda, ct, osl, cc, p, p6, txt, q, hli, hpc, hbd, a1, a2, ho, hcd, ⟨ccl, cdd, fvs, ccs, file, tf, hk1, hk2, hk3⟩, cl, cld, csl, hcc⟩ := T.fn
  rw [hfI] at a1
  cases a1
  obtain ⟨cd, hcl, hre, hdct⟩ := T.ref
  obtain ⟨n2, n3, nn⟩ := nm_not hnm
  have n1 : ("self" : Str) ∉ (f :: fr) := fun h => (nn _ h).1 rfl
  obtain ⟨mb, hb1, hb2⟩ := hb
  have kcl : (nScope (f :: fr)).names.lookup ("__class__" : Str) = some .free := lookT n3 (by decide) (by rfl)
  have ksu : (nScope (f :: fr)).names.lookup ("super" : Str) = some .globalImplicit := lookT n2 (by decide) (by rfl)
  refine ks_codeAny_call_defAt (binds := ("self", .ref x) :: (f :: fr).zip (v :: vr)) hroom (X _ _ ho) rfl hlim (codeRec_of X hcd) rfl (BindsTo.of_eq ?_) ?_ ?_ (fun h₁ hns k₁ => ?_) rfl rfl rfl
  · exact hbd _ _ hvl
  · intro y hy
    have hy : y ∈ nNames (f :: fr) := hy
    unfold nNames at hy
    simp only [List.cons_append, List.mem_cons, List.mem_append, List.mem_map, List.not_mem_nil, or_false] at hy
    rcases hy with z | ⟨f, _, z⟩ | z | z <;> (subst z; simp)
  · intro y hy
    rcases List.mem_cons.mp hy with z | z
    · subst z; rfl
    · exact lookN (List.of_mem_zip z).1 hnm
  · have X₁ : K.In h₁ := X.keeps k₁
    have hx₁ := k₁ _ _ hx
    have xlt : x < s.heap.objs.size := Heap.lt_size hx
    refine ks_wpAt_execs_cons (ks_wpAt_Expr_any (ks_wpAt_MethodCall (pl := do return (← importBound (.Call (.Name "super" p.b1) [] [] p.b2) (callEnv (fnX "__init__" q (nParams (f :: fr) p) (nBody txt (f :: fr) p p6) (nScope (f :: fr)) [("__class__", cc)] .none .none doc pm an (.ref cda) ct) s.heap.objs.size fI)).getD true) ?_ ?_))
    · refine ks_wpAt_super_base (env := callEnv (fnX "__init__" q (nParams (f :: fr) p) (nBody txt (f :: fr) p p6) (nScope (f :: fr)) [("__class__", cc)] .none .none doc pm an (.ref cda) ct) s.heap.objs.size fI) (ar := { arg := "self", annotation := none, pos := p.a0 }) ksu kcl (by decide +kernel) rfl (X₁ _ _ ho) rfl rfl rfl (X₁ _ _ hk1) rfl hk2 hk3 T.top ?_
      refine ks_loadName_global rfl ksu (loadGlobal_builtin (hg.keeps k₁) T.gs (hb1.keeps k₁) ((hb2 _ (by decide +kernel)).trans (by decide +kernel)) ⟨rfl, ?_⟩)
      refine wpAny_loadName_free rfl kcl rfl ⟨_, X₁ _ _ hcc, rfl⟩ ?_
      refine wpAny_loadName_local rfl rfl hns (v := .ref x) ?_ ?_
      · show List.lookup _ _ = _
        rw [List.reverse_cons]
        exact zip_self n1
      obtain ⟨oD, hD1, hD2⟩ : ∃ oD, h₁.get? C = some oD ∧ oD.data = .cls cd := by
        unfold clsIn at hcl
        split at hcl
        · rename_i c d cd' sl hh
          cases hcl
          exact ⟨_, X₁ _ _ hh, rfl⟩
        · cases hcl
      have I1 : InstAt h₁ x (excO C t0) C none := ⟨hx₁, rfl, rfl, trivial⟩
      refine ks_wpAny_isType_cls hD1 hD2 ⟨rfl, ?_⟩
      refine ks_wpAny_call_super hD1 hD2 hx₁ rfl (fun c e => nomatch e) (looks_mroIn X₁ T.mro) (fun h2 e2 k2 => ?_)
      have X₂ : K.In h2 := X₁.keeps k2
      have hx₂ := k2 _ _ hx₁
      have I2 : InstAt h2 x (excO C t0) C none := ⟨hx₂, rfl, rfl, trivial⟩
      have sup := T.sup
      unfold ks_superIn at sup
      rw [hcl] at sup
      refine kxs_getMethod kxs_ValueError e2 (looks_opaque X₂ T.opq) (l₀ := cd.mro) (fun A Q E s k q => wpAny_bind ((looks_clsIn X₂ hcl) A _ E s k (wpAny_pure q))) rfl X₂ sup (I2.type.andThen (looks_subIn X₂ T.ve)) (ks_ne X₂ I2 hcl) (by decide +kernel) ?_
      have hu : (h2.push (kxs_mw "ValueError.__init__" x)).get? h2.objs.size = some (kxs_mw "ValueError.__init__" x) := Heap.get?_push_at rfl rfl
      have k3 : ∀ b o, h2.get? b = some o → (h2.push (kxs_mw "ValueError.__init__" x)).get? b = some o := fun b o e => Heap.get?_push_of_some _ e
      refine kxs_callWith (i := "ValueError.__init__") (x := x) rfl (evalArgs_plain ?_)
      refine Calls.spliced_cons (Calls.Constant_str (k := 0) (pos := p.b4) (Calls.spliced_nil ⟨hu, ?_⟩))
      refine call_mw (X₂.keeps k3) T.ini (k3 _ _ hx₂) hu (by rw [sizeLine_eq]; show 1 ≤ 16777216; decide) fun h4 t1 k4 hx4 => ?_
      have keep4 : ∀ b o, b ≠ x → h₁.get? b = some o → h4.get? b = some o := fun b o hb e => k4 b o hb (k3 b o (k2 b o e))
      have X₄ : K.In h4 := fun a o e => keep4 a o (fun z => by rw [z, hnx x (Nat.le_refl _)] at e; cases e) (X₁ a o e)
      have hns4 : h4.Ns s.heap.objs.size (fun y => List.lookup y (((f :: fr).zip (v :: vr)).reverse ++ [(("self" : Str), Value.ref x)])) := by
        have z := hns.at (fun o e => keep4 _ o (Nat.ne_of_gt xlt) e)
        rw [List.reverse_cons] at z
        exact z
      refine wpAt_of_wpAny ?_
      obtain ⟨q1, qr, hqc⟩ : ∃ q1 qr, p.c = q1 :: qr := by
        cases hq' : p.c with
        | nil => rw [hq'] at hpc; cases hpc
        | cons a b => exact ⟨a, b, rfl⟩
      show wpAny _ _ (execs (nStores (f :: fr) p.c) _) _ _ _
      rw [hqc]
      show wpAny _ _ (execs (nStore f q1 :: nStores fr qr) _) _ _ _
      refine wpAny_execs_cons (plainObj_wpAny_Assign_Attribute ?_)
      have lk := zip_lookupR (u := (("self" : Str), Value.ref x)) hnd hvl n1
      have kfe : (callEnv (fnX "__init__" q (nParams (f :: fr) p) (nBody txt (f :: fr) p p6) (nScope (f :: fr)) [("__class__", cc)] .none .none doc pm an (.ref cda) ct) s.heap.objs.size fI).kindOf f = some .local := lookN List.mem_cons_self hnm
      refine wpAny_Name (wpAny_loadName_local rfl kfe hns4 (v := v) (lk (f, v) (by simp)) ?_) (nn f List.mem_cons_self).2
      refine wpAny_Name (wpAny_loadName_local rfl rfl hns4 (v := .ref x) (zip_self n1) ?_) (by decide +kernel)
      refine set_plain X₄ (ox := excO C t1) (od := none) ⟨hx4, rfl, rfl, trivial⟩ hsa ?_
      refine exc_osa X₄ hx4 hcl hre hdct (hno f List.mem_cons_self) (fun h5 tk5 dx k5 dn dne hx5 hn5 => ?_)
      have z1 : s.heap.objs.size < h4.objs.size := hns4.lt
      have X₅ : K.In h5 := fun a o e => k5 a o (fun z => by rw [z, hnx x (Nat.le_refl _)] at e; cases e) (X₄ a o e)
      have ndK : K.lookup dx = none := hnx dx (Nat.le_of_lt (Nat.lt_of_lt_of_le (Nat.lt_trans xlt z1) dn))
      refine n_stores (x := x) (dx := dx) (t1 := t1) (cd := cd) (loc := (((f :: fr).zip (v :: vr)).reverse ++ [(("self" : Str), Value.ref x)])) hcl hre hdct hsa rfl rfl (zip_self n1) (Nat.ne_of_lt (Nat.lt_of_lt_of_le z1 dn)) dne ndK fr vr qr [(f, v)] _ (by simpa using hvl) (by rw [hqc] at hpc; simpa using hpc) (fun p hp => lk p (by rw [List.zip_cons_cons]; exact List.mem_cons_of_mem _ hp)) (fun y hy => ⟨lookN (List.mem_cons_of_mem _ hy) hnm, (nn y (List.mem_cons_of_mem _ hy)).2, hno y (List.mem_cons_of_mem _ hy)⟩) (by simp at hfew ⊢; omega) X₅ (hns4.at fun o e => k5 _ o (Nat.ne_of_gt xlt) e) hx5 (by exact hn5) fun h6 tk6 k6 hn6 => ?_
      refine hq h6 tk6 dx t1 ⟨fun b o hb e => k6 b o (fun z => ?_) (k5 b o hb (keep4 b o hb (k₁ b o e))), k6 _ _ (Ne.symm dne) hx5, Nat.le_of_lt (Nat.lt_of_lt_of_le z1 dn), dne, ?_⟩
      · have := Heap.lt_size e
        rw [z] at this
        exact absurd (Nat.lt_of_lt_of_le (Nat.lt_trans this z1) dn) (Nat.lt_irrefl _)
      · have e : ((f :: fr).zip (v :: vr)).reverse = (fr.zip vr).reverse ++ [(f, v)] := by simp
        rw [e]
        exact hn6
    · rw [arm_eval_Call]
      unfold methodCall calleeOf methodCallPos
      simp only [hli, Bool.or_true, if_true, pure_bind]
      rfl
end
end DL
namespace DL
open PySem PySem.Spec PySem.W PySem.Calls PyProof.Rows PySem.HandSPX
/-- a made error -/
structure NMade (h h' : Heap) (e C d : Addr) (fvs : List (Str × Value)) : Prop where
  keep : ∀ b o, h.get? b = some o → h'.get? b = some o
  new : h.objs.size ≤ e
  obj : ∃ oe vs, h'.get? e = some oe ∧ oe.cls = .ref C ∧ oe.dict = some d ∧ oe.data = .fields vs ∧ vs[1]? = some .none ∧ vs[2]? = some .none
  dbig : h.objs.size ≤ d
  dne : d ≠ e
  ns : h'.Ns1 d (fldM fvs)
section
variable {prog : Program} {w : World} {A : Around} {R : Result → Shared → Prop} {s : Shared} {K : Frag} {mg : Str → Option Value} {C : Addr} {fs : List Str}
theorem n_made (T : NC prog K mg C fs) {vs : List Value} (hvl : vs.length = fs.length) (X : K.In s.heap) (hlim : s.heap.NoLimit) (hg : s.heap.Ns mainGlobals mg) (hb : ∃ mb, s.heap.Ns builtinsNs mb ∧ ∀ x : Str, x ≠ "__name__" → mb x = bootBuiltins x) (hroom : A.depth + 1 < recursionLimit)
    (hq : ∀ h' tk e d, NMade s.heap h' e C d (fs.zip vs).reverse → R (.ok (.ret (.ref e))) { s with heap := h', toks := tk }) :
    codeAny (model prog w) A (.call (.ref C) ⟨vs, []⟩) R s := by
  obtain ⟨nm, N', qn, bs, bm, hdct, sn, sub, ab, col, dd, k0, k1, k2, k3, k5, hC, hT⟩ := excInit_of X T.ini
  obtain ⟨fI, oc, od, doc, pm, an, cda, ct, osl, cc, p, p6, txt, q, _, _, _, hfI, htI, _⟩ := T.fn
  have hfew := T.few
  obtain ⟨hp, g, dr, tk, os⟩ := s
  have k : ∀ b o, hp.get? b = some o → ((hp.push (kdv_tup vs)).push (excO C hp.objs.size)).get? b = some o := fun b o e => Heap.get?_push_of_some _ (Heap.get?_push_of_some _ e)
  have hget : ((hp.push (kdv_tup vs)).push (excO C hp.objs.size)).get? (hp.objs.size + 1) = some (excO C hp.objs.size) := by heap_get
  have hnx : ∀ a, hp.objs.size + 1 ≤ a → K.lookup a = none := fun a ha => by
    cases e : K.lookup a with
    | none => rfl
    | some o =>
      have z : hp.get? a = some o := X _ _ e
      exact absurd (Nat.lt_of_lt_of_le (Heap.lt_size z) (Nat.le_of_succ_le ha)) (Nat.lt_irrefl _)
  obtain ⟨mb, hb1, hb2⟩ := hb
  refine call_own F.excBase_ValueError hT hC (looks_findIn X hfI) (fun self => bind_fn X self htI) (by rw [sizeLine_eq]; omega) ?_
  refine n_init (s := ⟨(hp.push (kdv_tup vs)).push (excO C hp.objs.size), g, dr, tk, os⟩) T hvl hfI (X.keeps k) (hlim.keeps k) (hg.keeps k) ⟨mb, hb1.keeps k, hb2⟩ hget hnx hroom fun h' tk' dx t1 en => ?_
  obtain ⟨k', hx, dn, dne, hns⟩ := en
  have old : ∀ b o, hp.get? b = some o → h'.get? b = some o := fun b o e => k' b o (Nat.ne_of_lt (Nat.lt_succ_of_lt (Heap.lt_size e))) (k b o e)
  have z : hp.objs.size + 1 + 1 ≤ dx := by
    have q := dn
    simp only [Heap.size_push] at q
    exact q
  exact ⟨rfl, hq h' tk' (hp.objs.size + 1) dx ⟨old, Nat.le_succ _, ⟨_, _, hx, rfl, rfl, rfl, rfl, rfl⟩, (show hp.objs.size ≤ dx by omega), dne, hns⟩⟩
end
end DL
namespace DL
open PySem PySem.Spec L2
theorem vals_zip : ∀ {fs : List Str} {vs : List V} {us : List Value}, Vals vs us → Paired (fun (p : Str × V) (q : Str × Value) => p.1 = q.1 ∧ RelV p.2 q.2) (fs.zip vs) (fs.zip us)
  | [], _, _, _ => by simp; exact .nil
  | _ :: _, _, _, .nil => by simp; exact .nil
  | f :: fs, _, _, .cons r t => by
    rw [List.zip_cons_cons, List.zip_cons_cons]
    exact .cons ⟨rfl, r⟩ (vals_zip t)
theorem paired_app {α β : Type} {R : α → β → Prop} : ∀ {a c : List α} {b d : List β}, Paired R a b → Paired R c d → Paired R (a ++ c) (b ++ d)
  | _, _, _, _, .nil, h => h
  | _, _, _, _, .cons r t, h => .cons r (paired_app t h)
theorem paired_rev {α β : Type} {R : α → β → Prop} : ∀ {a : List α} {b : List β}, Paired R a b → Paired R a.reverse b.reverse
  | _, _, .nil => .nil
  | _, _, .cons r t => by
    rw [List.reverse_cons, List.reverse_cons]
    exact paired_app (paired_rev t) (.cons r .nil)
theorem relO_fld : ∀ {l : List (Str × V)} {m : List (Str × Value)}, Paired (fun (p : Str × V) (q : Str × Value) => p.1 = q.1 ∧ RelV p.2 q.2) l m → ∀ y, RelO (List.lookup y l) (fldM m y)
  | _, _, .nil, y => by show RelO none none; trivial
  | (f, v) :: l, (g, u) :: m, .cons ⟨e, r⟩ t, y => by
    have e : f = g := e
    subst e
    unfold fldM
    by_cases c : y = f
    · subst c
      rw [if_pos rfl]
      have q : List.lookup y ((y, v) :: l) = some v := by simp [List.lookup]
      rw [q]
      exact r
    · rw [if_neg c]
      have q1 : (y == f) = false := by simpa using c
      have q : List.lookup y ((f, v) :: l) = List.lookup y l := by simp [List.lookup, q1]
      rw [q]
      exact relO_fld t y
section
variable {X : Cx} {C : Addr} {fs : List Str} {c : Str}
def tMkN (C : Addr) (fs : List Str) (ta : TA) : L2.St → Hp → XK → Prop := fun σ H Q => ta σ H fun vs H1 => vs.length = fs.length ∧ ∀ d, H1 d = none → Q (.ref C) (some d) (upd H1 d (.xd (fs.zip vs).reverse))
theorem pmk_n {a : Expr} {as : List Expr} {ta : TA} {p pos : Pos} {k : Nat} (T : NC X.prog X.K X.mg C fs) (hm : X.mg c = some (.ref C)) (hr : Room k X.A) (ha : PA X (a :: as) ta) (hg : Gl X c) (hdb : (c == ("__debug__" : Str)) = false := by decide)
    (he : starEach (a :: as) X.env = (false, eval a X.env) :: starEach as X.env := by rfl) (hpl : (backTo pos (starEach as X.env)).any (·.1) = false := by rfl) :
    L2N.PMk X (.Call (.Name c p) (a :: as) [] pos) (tMkN C fs ta) := by
  intro pins s σ H Q I h
  refine wpAny_Call_Name_kw (ld_glob I hg hm ?_ hdb)
  refine PySem.W.callWith_K (h₀ := X.base) I.ok.mod.kin T.kp (thn (ha.run pos pins s σ H _ I h) fun us s1 hh => ?_) he hpl
  obtain ⟨vs, H1, I1, r1, hl, q1⟩ := hh
  refine ⟨I1.kIn, ?_⟩
  show wpAny _ _ (call (.ref C) us) _ _ _
  have hlim := I1.nolimit
  have hgl : s1.heap.Ns mainGlobals X.mg := I1.mod.glob.keeps I1.bk
  obtain ⟨mb, hb1, hb2⟩ := I1.mod.blt
  have hbl := hb1.keeps I1.bk
  have hul : us.length = fs.length := by rw [← r1.length]; exact hl
  obtain ⟨hp, g, dr, tk, os⟩ := s1
  refine wpAny_call (n_made T hul I1.kIn hlim hgl ⟨mb, hbl, hb2⟩ (by have := hr.dp; omega) fun h' tk' e d M => ?_)
  show L2N.MkP X pins σ Q (.ref e) ⟨h', g, dr, tk', os⟩
  obtain ⟨oe, fv, hoe, hc, hd, hdat, h1, h2⟩ := M.obj
  have hns := M.ns
  obtain ⟨G', g1, g2⟩ := restrict h' fun b => decide (b ≠ e)
  have gk : ∀ b, b ≠ e → G'.get? b = h'.get? b := fun b hb => g1 b (decide_eq_true hb)
  have ge : G'.get? e = none := g2 e (by simp)
  have old : ∀ b o, hp.get? b = some o → G'.get? b = some o := fun b o q => (gk b (Nat.ne_of_lt (Nat.lt_of_lt_of_le (Heap.lt_size q) M.new))).trans (M.keep b o q)
  have ob : ObjOk X.prog X.w (upd H1 d (.xd (fs.zip vs).reverse)) G' d (.xd (fs.zip vs).reverse) := ⟨_, hns.at (fun o q => (gk d M.dne).trans q), fun y => relO_fld (paired_rev (vals_zip r1)) y⟩
  have J : Inv X pins σ (upd H1 d (.xd (fs.zip vs).reverse)) ⟨G', g, dr, tk', os⟩ := I1.laid (t' := tk') old M.dbig ob
  refine ⟨e, oe, fv, ⟨G', g, dr, tk', os⟩, _, .ref C, some d, rfl, J, fun b o q => ?_, ge, hoe, ⟨hc, hd, fun us e => by rw [hdat] at e; cases e; exact h2⟩, hdat, h1, ?_, rfl, I1.bare, raises_own T.ex T.ty, q1 d (I1.hok.fresh M.dbig)⟩
  · by_cases hb : b = e
    · have q' : G'.get? b = some o := q
      rw [hb, ge] at q'; cases q'
    · exact (gk b hb).symm.trans q
  · rw [upd_ne (Ne.symm M.dne)]
    exact I1.hok.fresh M.new
theorem reps_zip {K : PySem.W.Frag} {G : Gh} : ∀ {fs : List Str} {vs : List V} {ds : List D}, Reps K G vs ds → RepF K G (fs.zip vs) (fs.zip ds)
  | [], _, _, _ => by simp; exact .nil
  | _ :: _, _, _, .nil => by simp; exact .nil
  | f :: fs, _, _, .cons p r => by
    rw [List.zip_cons_cons, List.zip_cons_cons]
    exact .cons p (reps_zip r)
theorem repF_app {K : PySem.W.Frag} {G : Gh} : ∀ {a c : List (Str × V)} {b d : List (Str × D)}, RepF K G a b → RepF K G c d → RepF K G (a ++ c) (b ++ d)
  | _, _, _, _, .nil, h => h
  | _, _, _, _, .cons p r, h => .cons p (repF_app r h)
theorem repF_rev {K : PySem.W.Frag} {G : Gh} : ∀ {a : List (Str × V)} {b : List (Str × D)}, RepF K G a b → RepF K G a.reverse b.reverse
  | _, _, .nil => .nil
  | _, _, .cons p r => by
    rw [List.reverse_cons, List.reverse_cons]
    exact repF_app (repF_rev r) (.cons p .nil)
/-- raise c(e, ..), c an error of the program with the fields fs -/
def mRaiseN (c : Str) (fs : List Str) (m : MA) : MS := bnd m fun ds s => if ds.length = fs.length then .exc ⟨c, (fs.zip ds).reverse⟩ s else .stuck
theorem js_raiseN {a : Expr} {as : List Expr} {m : MA} {W : WX} {p pos pos2 : Pos} {k : Nat} (hc : X.calm = true) (T : NC X.prog X.K X.mg (He.ga X.K c) fs) (hm : X.mg c = some (.ref (He.ga X.K c))) (hr : Room k X.A) (tk : L2N.Takes X W) (ha : JA X W (a :: as) m) (hg : Gl X c) (hdb : (c == ("__debug__" : Str)) = false := by decide)
    (he : starEach (a :: as) X.env = (false, eval a X.env) :: starEach as X.env := by rfl) (hpl : (backTo pos (starEach as X.env)).any (·.1) = false := by rfl) :
    JS X W (.Raise (some (.Call (.Name c p) (a :: as) [] pos)) none pos2) (mRaiseN c fs m) := by
  refine PS.imp (L2N.ps_raise hc tk (pmk_n T hm hr ha.pa hg hdb he hpl)) fun D σ H h => ?_
  obtain ⟨w, rfl, rfl, r, h⟩ := h
  refine runS r h fun ds s' G' vs H' g r' p h' => ?_
  split at h'
  · rename_i hl
    refine ⟨by rw [Reps.length p]; exact hl, fun dd hd => ?_⟩
    have hn : G'.F dd = none := r'.noF hd
    have ne := T.ne
    have q : ∃ z zs, (fs.zip ds).reverse = z :: zs := by
      cases hz : (fs.zip ds).reverse with
      | nil =>
        exfalso
        have := congrArg List.length hz
        rw [List.length_reverse, List.length_zip, hl] at this
        simp at this
        exact ne this
      | cons z zs => exact ⟨z, zs, rfl⟩
    obtain ⟨z, zs, hz⟩ := q
    refine h' _ _ _ _ _ (gle_upd hn) (r'.new hd) ⟨rfl, ?_⟩
    rw [show (Exc.mk c (fs.zip ds).reverse).fs = z :: zs from hz]
    refine ⟨dd, _, rfl, upd_same, ?_⟩
    rw [← hz]
    exact repF_rev (reps_zip (p.mono (gle_upd hn)))
  · exact h'.elim
structure N0 (P : Program) (K : PySem.W.Frag) (C : Addr) : Prop where
  ini : PySem.W.excIn K C HandSPX.veTail "ValueError.__new__" = true
  kp : PySem.W.keepIn K (.ref C) = true
  ex : PySem.W.subIn K (.ref C) (.type "BaseException") = some true
  ty : PySem.W.typeIn K (.ref C) = some (.type "type")
end
end DL
namespace HKN
open PySem PySem.Spec PySem.W L2 DL He HK
/-- an error class: its name, its fields, its __init__'s qualified name, the text, the places -/
structure ND where
  c : Str
  fs : List Str
  q : Str
  txt : Str
  p : NPos
  p6 : Pos
def iAd (K : Frag) (d : ND) : Addr := ma K (ga K d.c) "__init__"
def nW (K : Frag) (d : ND) : XW := match K.lookup (iAd K d) with
  | some ⟨_, _, .func fd, _⟩ => some (fd.name, fd.qualname, fd.params, fd.body, fd.scope, fd.globals, fd.closure.map (·.1), fd.builtins)
  | _ => none
def ND.val (d : ND) : XW := some ("__init__", d.q, nParams d.fs d.p, .stmts (nBody d.txt d.fs d.p d.p6), nScope d.fs, mainGlobals, ["__class__"], builtinsNs)
def nFunB (K : Frag) (file : Str) (d : ND) : Bool := match K.lookup (iAd K d) with
  | some ⟨_, _, .func fd, _⟩ => codeIn K fd.code d.q && (fileB K file fd.code && (cellB K (ga K d.c) fd.closure && (noneB fd.defaults && noneB fd.kwdefaults)))
  | _ => false
def nB1 (K : Frag) (d : ND) : Bool := excInitIn K (ga K d.c) HandSPX.veTail "ValueError.__new__" && ((match clsIn K (ga K d.c) with
  | some cd => HandSPX.refsVE cd.mro && cd.hasDict
  | none => false) && (eqO (findIn K (.ref (ga K d.c)) "__setattr__") (some (some (.builtin "object.__setattr__"))) && ((d.fs.all fun f => eqO (findIn K (.ref (ga K d.c)) f) (some none)) && (keepIn K (.ref (ga K d.c)) && (decide (subIn K (.ref (ga K d.c)) (.type "BaseException") = some true) && decide (subIn K (.ref (ga K d.c)) (.type "ValueError") = some true))))))
def nB2 (K : Frag) (d : ND) : Bool := decide (typeIn K (.ref (ga K d.c)) = some (.type "type")) && (eqO (ks_superIn K (ga K d.c) (ga K d.c) "__init__") (some (some (.builtin "ValueError.__init__"))) && (decide (mroIn K (ga K d.c) (.ref (ga K d.c)) = some true) && (eqO (nsIn K cStatics "thirdparty.any") (some none) && (eqO (findIn K (.ref (ga K d.c)) "__init__") (some (some (.ref (iAd K d)))) && decide (typeIn K (.ref (iAd K d)) = some (.type "function"))))))
def ND.ok (K : Frag) (file : Str) (d : ND) : Bool := nB1 K d && (nB2 K d && (nFunB K file d && excB K (ga K d.c)))
/-- what is asked of the fields' names -/
def ND.nm (d : ND) : Bool := nmB d.fs && (decide d.fs.Nodup && (decide (d.fs ≠ []) && (decide (d.fs.length ≤ 900) && decide (d.p.c.length = d.fs.length))))
theorem ND.nc {P : Program} {K : Frag} {mg : Str → Option Value} {d : ND} (e : nW K d = d.val) (c : d.ok K P.main.file = true) (hn : d.nm = true) (hg : mg "super" = none) (ht : (P.main.scope.names.lookup ("super" : Str)).isSome = false) (hl : (d.p.b3.endLine == d.p.b5.line) = true)
    (hb : ∀ cc doc pm an cdv ct a vs, vs.length = d.fs.length → bindArgs (fnX "__init__" d.q (nParams d.fs d.p) (nBody d.txt d.fs d.p d.p6) (nScope d.fs) [("__class__", cc)] .none .none doc pm an (.ref cdv) ct) ⟨a :: vs, []⟩ = pure ((("self" : Str), a) :: d.fs.zip vs)) : NC P K mg (ga K d.c) d.fs := by
  obtain ⟨c1, c⟩ := ba c
  obtain ⟨c2, c⟩ := ba c
  obtain ⟨c3, c4⟩ := ba c
  obtain ⟨a1, c1⟩ := ba c1
  obtain ⟨a2, c1⟩ := ba c1
  obtain ⟨a3, c1⟩ := ba c1
  obtain ⟨a4, c1⟩ := ba c1
  obtain ⟨a5, c1⟩ := ba c1
  obtain ⟨a6, a7⟩ := ba c1
  obtain ⟨b1, c2⟩ := ba c2
  obtain ⟨b2, c2⟩ := ba c2
  obtain ⟨b3, c2⟩ := ba c2
  obtain ⟨b4, c2⟩ := ba c2
  obtain ⟨b5, b6⟩ := ba c2
  obtain ⟨n1, hn⟩ := ba hn
  obtain ⟨n2, hn⟩ := ba hn
  obtain ⟨n3, hn⟩ := ba hn
  obtain ⟨n4, n5⟩ := ba hn
  refine ⟨a1, ?_, eqO_ok a3, fun f hf => eqO_ok (List.all_eq_true.mp a4 f hf), a5, of_decide_eq_true a6, of_decide_eq_true a7, of_decide_eq_true b1, eqO_ok b2, of_decide_eq_true b3, eqO_ok b4, hg, ht, ?_, n1, of_decide_eq_true n2, of_decide_eq_true n3, of_decide_eq_true n4⟩
  · cases q : clsIn K (ga K d.c) with
    | none => rw [q] at a2; cases a2
    | some cd =>
      rw [q] at a2
      obtain ⟨z1, z2⟩ := ba a2
      exact ⟨cd, rfl, z1, z2⟩
  · unfold nFunB at c3
    unfold nW at e
    cases q : K.lookup (iAd K d) with
    | none => rw [q] at c3; cases c3
    | some o =>
      obtain ⟨oc, od, dt, osl⟩ := o
      rw [q] at c3 e
      cases dt with
      | func fd =>
        obtain ⟨m1, m2, m3, m4, m5, m6, m7, m8, m9, m10, m11, m12, m13, m14, m15⟩ := fd
        have e2 : (some (m1, m2, m3, m4, m5, m6, m7.map (·.1), m15) : XW) = d.val := e
        unfold ND.val at e2
        simp only [Option.some.injEq, Prod.mk.injEq] at e2
        obtain ⟨h1, h2, h3, h4, h5, h6, h7, h8⟩ := e2
        subst h1 h2 h3 h4 h5 h6 h8
        obtain ⟨k1, c3⟩ := ba (show (codeIn K m13 d.q && (fileB K P.main.file m13 && (cellB K (ga K d.c) m7 && (noneB m8 && noneB m9)))) = true from c3)
        obtain ⟨k2, c3⟩ := ba c3
        obtain ⟨k3, c3⟩ := ba c3
        obtain ⟨k4, k5⟩ := ba c3
        have e8 : m8 = .none := by cases m8 <;> first | rfl | cases k4
        have e9 : m9 = .none := by cases m9 <;> first | rfl | cases k5
        subst e8 e9
        match m7, h7, k3 with
        | [(z, cc)], h7, k3 =>
          have ez : z = "__class__" := by simpa using h7
          subst ez
          cases m13 with
          | ref cda =>
            have hcell : ∃ (cl : Value) (cld : Option Addr) (csl : Array (Option Value)), K.lookup cc = some ⟨cl, cld, .cell (some (.ref (ga K d.c))), csl⟩ := by
              have k3 : (match K.lookup cc with
                | some ⟨_, _, .cell (some (.ref b)), _⟩ => decide (b = ga K d.c)
                | _ => false) = true := k3
              split at k3
              · rename_i hh
                have := of_decide_eq_true k3
                subst this
                exact ⟨_, _, _, hh⟩
              · cases k3
            have hfile : ∃ (ccl : Value) (cdd : Option Addr) (vs : Array Value) (ccs : Array (Option Value)) (file : Str) (tf : Tok), K.lookup cda = some ⟨ccl, cdd, .fields vs, ccs⟩ ∧ vs[2]? = some (.str file tf) ∧ ((P.main.file : Str) == file) = true := by
              have k2 : (match K.lookup cda with
                | some ⟨_, _, .fields vs, _⟩ => (match vs[2]? with
                  | some (Value.str y _) => (P.main.file == y)
                  | _ => false)
                | _ => false) = true := k2
              split at k2
              · rename_i hh
                split at k2
                · rename_i hv
                  exact ⟨_, _, _, _, _, _, hh, hv, k2⟩
                · cases k2
              · cases k2
            exact ⟨iAd K d, oc, od, m10, m11, m12, cda, m14, osl, cc, d.p, d.p6, d.txt, d.q, hl, of_decide_eq_true n5, fun a vs hv => hb cc m10 m11 m12 cda m14 a vs hv, eqO_ok b5, of_decide_eq_true b6, q, k1, hfile, hcell⟩
          | _ => cases k2
        | [], h7, k3 => cases k3
        | _ :: _ :: _, h7, k3 => cases k3
      | _ => cases c3
abbrev AlN : Type := Bool × List FnW × List XW
def obsN (file : Str) (fa : List Fa) (fb : List (Frag → Bool)) (fn : List DefD) (xs : List ND) (K : Frag) : AlN := ((fa.all fun f => f.ok K) && ((fb.all fun f => f K) && ((fn.all fun d => d.ok K) && xs.all fun d => d.ok K file)), fn.map fun d => fnW K d.at_, xs.map fun d => nW K d)
def valN (fn : List DefD) (xs : List ND) : AlN := (true, fn.map DefD.val, xs.map ND.val)
def SaysN (file : Str) (fa : List Fa) (fb : List (Frag → Bool)) (fn : List DefD) (xs : List ND) (K : Frag) : Prop := obsN file fa fb fn xs K = valN fn xs
section
variable {file : Str} {fa : List Fa} {fb : List (Frag → Bool)} {fn : List DefD} {xs : List ND} {K : Frag}
theorem SaysN.bits (c : SaysN file fa fb fn xs K) : (fa.all fun f => f.ok K) = true ∧ (fb.all fun f => f K) = true ∧ (fn.all fun d => d.ok K) = true ∧ (xs.all fun d => d.ok K file) = true := by
  obtain ⟨h1, h⟩ := ba (show ((fa.all fun f => f.ok K) && ((fb.all fun f => f K) && ((fn.all fun d => d.ok K) && xs.all fun d => d.ok K file))) = true from congrArg (fun z : AlN => z.1) c)
  obtain ⟨h2, h⟩ := ba h
  obtain ⟨h3, h4⟩ := ba h
  exact ⟨h1, h2, h3, h4⟩
theorem SaysN.fact (c : SaysN file fa fb fn xs K) (i : Nat) {f : Fa} (h : fa[i]? = some f := by rfl) : f.ok K = true := List.all_eq_true.mp c.bits.1 f (List.mem_of_getElem? h)
theorem SaysN.fx (c : SaysN file fa fb fn xs K) (i : Nat) {f : Frag → Bool} (h : fb[i]? = some f := by rfl) : f K = true := List.all_eq_true.mp c.bits.2.1 f (List.mem_of_getElem? h)
theorem SaysN.def_ (c : SaysN file fa fb fn xs K) (i : Nat) {d : DefD} (h : fn[i]? = some d := by rfl) : ∃ fd, FunD K d.name d.qual d.params d.body d.scope (d.dvs K) (d.kws K) (fAd K d.at_) fd := by
  have e : fn.map (fun d => fnW K d.at_) = fn.map DefD.val := congrArg (fun z : AlN => z.2.1) c
  have e2 : (fn.map fun d => fnW K d.at_)[i]? = (fn.map DefD.val)[i]? := by rw [e]
  rw [List.getElem?_map, List.getElem?_map, h] at e2
  exact DefD.funD (Option.some.inj e2) (List.all_eq_true.mp c.bits.2.2.1 d (List.mem_of_getElem? h))
theorem SaysN.nc {P : Program} {mg : Str → Option Value} (c : SaysN P.main.file fa fb fn xs K) (i : Nat) {d : ND} (h : xs[i]? = some d) (hn : d.nm = true) (hg : mg "super" = none) (ht : (P.main.scope.names.lookup ("super" : Str)).isSome = false) (hl : (d.p.b3.endLine == d.p.b5.line) = true)
    (hb : ∀ cc doc pm an cdv ct a vs, vs.length = d.fs.length → bindArgs (fnX "__init__" d.q (nParams d.fs d.p) (nBody d.txt d.fs d.p d.p6) (nScope d.fs) [("__class__", cc)] .none .none doc pm an (.ref cdv) ct) ⟨a :: vs, []⟩ = pure ((("self" : Str), a) :: d.fs.zip vs)) : NC P K mg (ga K d.c) d.fs := by
  have e : xs.map (fun d => nW K d) = xs.map ND.val := congrArg (fun z : AlN => z.2.2) c
  have e2 : (xs.map fun d => nW K d)[i]? = (xs.map ND.val)[i]? := by rw [e]
  rw [List.getElem?_map, List.getElem?_map, h] at e2
  exact ND.nc (Option.some.inj e2) (List.all_eq_true.mp c.bits.2.2.2 d (List.mem_of_getElem? h)) hn hg ht hl hb
theorem SaysN.xf (c : SaysN file fa fb fn xs K) (i : Nat) {d : ND} (h : xs[i]? = some d) : XfC K (ga K d.c) ∧ ExcC K (ga K d.c) := by
  obtain ⟨c1, c⟩ := ba (List.all_eq_true.mp c.bits.2.2.2 d (List.mem_of_getElem? h))
  obtain ⟨c2, c⟩ := ba c
  obtain ⟨c3, c4⟩ := ba c
  have k := excB_ok c4
  exact ⟨⟨k.hg, k.hk, k.hs, k.hd⟩, k⟩
end
def n0B (c : Str) (K : Frag) : Bool := excIn K (ga K c) HandSPX.veTail "ValueError.__new__" && (keepIn K (.ref (ga K c)) && (decide (subIn K (.ref (ga K c)) (.type "BaseException") = some true) && (decide (typeIn K (.ref (ga K c)) = some (.type "type")) && excB K (ga K c))))
theorem n0B_ok {P : Program} {K : Frag} {c : Str} (h : n0B c K = true) : N0 P K (ga K c) ∧ XfC K (ga K c) ∧ ExcC K (ga K c) := by
  obtain ⟨h1, h⟩ := ba h
  obtain ⟨h2, h⟩ := ba h
  obtain ⟨h3, h⟩ := ba h
  obtain ⟨h4, h5⟩ := ba h
  have k := excB_ok h5
  exact ⟨⟨h1, h2, of_decide_eq_true h3, of_decide_eq_true h4⟩, ⟨k.hg, k.hk, k.hs, k.hd⟩, k⟩
/-- of which classes the errors of L are: of their own, of S -/
def kitB (L S : List Str) (K : Frag) : Bool := L.all fun z => (L.all fun c => decide (kitOne K (.ref (ga K z)) (.ref (ga K c)) = some (decide (z = c)))) && (S.all fun c => decide (kitOne K (.ref (ga K z)) (.ref (ga K c)) = some true))
def exmB (L S : List Str) (K : Frag) : Bool := L.all fun z => (L.all fun c => decide (exmOne K (.ref (ga K z)) (.ref (ga K c)) = some (decide (z = c)))) && (S.all fun c => decide (exmOne K (.ref (ga K z)) (.ref (ga K c)) = some true))
def kitTB (L : List Str) (T : String) (K : Frag) : Bool := L.all fun z => decide (kitOne K (.ref (ga K z)) (.type T) = some true)
/-- the table of a class c: L are the errors of the program -/
def tabL (L : List Str) (c : Str) : Str → Option Bool := fun z => if z ∈ L then some (decide (z = c)) else none
def tabT (L : List Str) : Str → Option Bool := fun z => if z ∈ L then some true else none
section
variable {L S : List Str} {K : Frag} {c d z : Str} {b : Bool}
theorem tabL_ok {F : Str → Bool → Prop} (h : ∀ z ∈ L, F z (decide (z = c))) (z : Str) (b : Bool) (e : tabL L c z = some b) : F z b := by
  unfold tabL at e
  split at e
  · cases e; exact h z (by assumption)
  · cases e
theorem tabT_ok {F : Str → Bool → Prop} (h : ∀ z ∈ L, F z true) (z : Str) (b : Bool) (e : tabT L z = some b) : F z b := by
  unfold tabT at e
  split at e
  · cases e; exact h z (by assumption)
  · cases e
theorem kitB_sup (h : kitB L S K = true) (hc : c ∈ S) : ∀ z ∈ L, kitOne K (.ref (ga K z)) (.ref (ga K c)) = some true := fun z hz => of_decide_eq_true (List.all_eq_true.mp (ba (List.all_eq_true.mp h z hz)).2 c hc)
theorem exmB_own (h : exmB L S K = true) (hc : c ∈ L) : ∀ z ∈ L, exmOne K (.ref (ga K z)) (.ref (ga K c)) = some (decide (z = c)) := fun z hz => of_decide_eq_true (List.all_eq_true.mp (ba (List.all_eq_true.mp h z hz)).1 c hc)
theorem kitTB_ok {T : String} (h : kitTB L T K = true) : ∀ z ∈ L, kitOne K (.ref (ga K z)) (.type T) = some true := fun z hz => of_decide_eq_true (List.all_eq_true.mp h z hz)
end
end HKN
namespace DL
open PySem PySem.Spec PyProof.Rows L2
/-- a clause's test: T tells whether an error of the class is caught -/
def TestOk (X : Cx) (t : Expr) (T : Value → Bool → Prop) : Prop := ∀ (a : Addr) (oe : Obj) (pn : List (Addr × Obj)) (σ : L2.St) (H : Hp) (s : Shared) (cls : Value) (b : Bool) (Q : Bool → Shared → Prop) (E : Value → Shared → Prop), Inv (X.suite a ((a, oe) :: pn)) [] σ H s → s.heap.get? a = some oe → oe.cls = cls → T cls b →
  (∀ h', (∀ b o, s.heap.get? b = some o → h'.get? b = some o) → Q b { s with heap := h' }) →
  wpAny (model X.prog X.w) (X.A.mark (some (.ref a))) (eval t X.env) (fun c s₁ => wpAny (model X.prog X.w) (X.A.mark (some (.ref a))) (excMatches (.ref a) c) Q E s₁) E s
theorem name_suite {X : Cx} {a : Addr} {oe : Obj} {pn : List (Addr × Obj)} {σ : L2.St} {H : Hp} {s : Shared} {x : Str} {c : Value} {p : Pos} {Q : Value → Shared → Prop} {E : Value → Shared → Prop} (hc : Names X x c) (S : Inv (X.suite a ((a, oe) :: pn)) [] σ H s) (q : Q c s) :
    wpAny (model X.prog X.w) (X.A.mark (some (.ref a))) (eval (.Name x p) X.env) Q E s := by
  obtain ⟨hg, hdbg, hm | ⟨hm, hv, hnn⟩⟩ := hc
  · exact ld_glob (X := X.suite a ((a, oe) :: pn)) S hg hm q hdbg
  · exact ld_blt (X := X.suite a ((a, oe) :: pn)) S hg hm hv q hnn hdbg
theorem test_one {X : Cx} {x : Str} {c : Value} {p : Pos} (hc : Names X x c) : TestOk X (.Name x p) (fun cls b => PySem.W.exmOne X.K cls c = some b) := by
  intro a oe pn σ H s cls b Q E S ha hcl hb q
  refine name_suite hc S ?_
  have LT : PySem.W.Looks (model X.prog X.w) s.heap (typeOf (.ref a)) cls := fun A Q E s k q => wpAny_typeOf_ref (k _ _ ha) (by rw [hcl]; exact q)
  exact (PySem.W.exm_one (M := model X.prog X.w) S.kIn LT hb).here (q s.heap fun _ _ e => e)
/-- a clause: its test, the slot of its name, its suite -/
structure Cl where
  T : Value → Bool → Prop
  io : Option Nat
  ts : Addr → Value → Option Addr → TS
def clE (io : Option Nat) (D : Ends) : Ends := match io with
  | none => D
  | some i => { nx := fun σ' H' => D.nx (σ'.set i none) H', rt := D.rt, bk := fun σ' H' => D.bk (σ'.set i none) H', ct := fun σ' H' => D.ct (σ'.set i none) H' }
def clS (io : Option Nat) (σ : L2.St) (a : Addr) : L2.St := match io with
  | none => σ
  | some i => σ.set i (some (.ref a))
def wCl (Wout : WX) (D : Ends) : List Cl → WX
  | [] => Wout
  | c :: r => fun cls d σ H => ∃ b, c.T cls b ∧ (b = true → ∀ a, H a = none → c.ts a cls d (clE c.io D) (clS c.io σ a) H) ∧ (b = false → wCl Wout D r cls d σ H)
inductive ClsOk (X : Cx) : List ExceptHandler → List Cl → Prop
  | nil : ClsOk X [] []
  | one {t : Expr} {T : Value → Bool → Prop} {ts : Addr → Value → Option Addr → TS} {b₀ : Stmt} {suite : List Stmt} {pos' : Pos} {hds : List ExceptHandler} {l : List Cl} (hc : TestOk X t T)
      (hsu : ∀ (a : Addr) (oe : Obj) (cls : Value) (d : Option Addr) (pn : List (Addr × Obj)), L2N.Zn cls d oe → (∃ vs, oe.data = .fields vs) → PSs (X.suite a ((a, oe) :: pn)) (b₀ :: suite) (ts a cls d)) (r : ClsOk X hds l) :
      ClsOk X (.ExceptHandler (some t) none (b₀ :: suite) pos' :: hds) (⟨T, none, ts⟩ :: l)
  | as_ {t : Expr} {T : Value → Bool → Prop} {ts : Addr → Value → Option Addr → TS} {n : Str} {i : Nat} {b₀ : Stmt} {suite : List Stmt} {pos' : Pos} {hds : List ExceptHandler} {l : List Cl} (hc : TestOk X t T) (hi : X.N[i]? = some n) (hln : X.env.kindOf n = some .local)
      (hsu : ∀ (a : Addr) (oe : Obj) (cls : Value) (d : Option Addr) (pn : List (Addr × Obj)), L2N.Zn cls d oe → (∃ vs, oe.data = .fields vs) → PSs (X.suite a ((a, oe) :: pn)) (b₀ :: suite) (ts a cls d)) (r : ClsOk X hds l) :
      ClsOk X (.ExceptHandler (some t) (some n) (b₀ :: suite) pos' :: hds) (⟨T, some i, ts⟩ :: l)
theorem fly_keep {B h h' : Heap} {l : List Env} {a : Addr} {Z : Obj → Prop} (k : ∀ b o, h.get? b = some o → h'.get? b = some o) (x : HandSPX.FlyingZ B l a Z h) : HandSPX.FlyingZ B l a Z h' := by
  obtain ⟨x1, x2, x3, oe, vs, T, oT, ts, e1, e2, e3, e4, e5, e6, e7, e8, e9⟩ := x
  exact ⟨fun b o e => k b o (x1 b o e), x2, Heap.FunFrames.of_keeps (fun b o e _ => ⟨o, k b o e, rfl⟩) x3, oe, vs, T, oT, ts, k _ _ e1, e2, e3, e4, e5, e6, k _ _ e7, e8, e9⟩
section
variable {X : Cx} {body : List Stmt} {h₀ : ExceptHandler} {hds : List ExceptHandler} {l : List Cl} {pos : Pos} {tb : WX → TS} {Wout : WX}
theorem ps_tryCl (hs : X.stack = X.env :: X.outer) (hf : X.env.frame = some X.env.locals) (hN : X.N.Nodup) (tk : L2N.Takes X Wout)
    (hb : ∀ (W : WX) (pn : List (Addr × Obj)) (xe : Value → Shared → Prop), L2N.Takes (X.tr pn xe) W → PassesOwn (model X.prog X.w) X.A X.env xe → PSs (X.tr pn xe) body (tb W))
    (hh : ClsOk X (h₀ :: hds) l) : PS X (.Try body (h₀ :: hds) [] [] pos) (fun D σ H => tb (wCl Wout D l) D σ H) := by
  refine ⟨fun pins s σ H D I h => ?_⟩
  have ok := I.ok
  have hfr : X.A.frames = some (X.env :: X.outer) := by rw [ok.frames, hs]
  refine wpAny_Try_except ?_
  refine wpAny_mono ((hb (wCl Wout D l) (X.pn ++ pins) (fun e s₁ => wpAny (model X.prog X.w) X.A (noteFrame e X.env) (fun _ s₂ => wpAny (model X.prog X.w) X.A (setFlight e none) (fun _ s₃ =>
    wpAny (model X.prog X.w) X.A (handleBy e X.env (h₀ :: hds)) (SP X pins D) X.xe s₃) X.xe s₂) X.xe s₁) (fun u s' xx => ?_) PassesOwn.looking).run [] s σ H D (I.toTry _) h) (fun f s1 hsp => ?_) (fun e s1 he => he)
  · obtain ⟨a, B, sI, pins', σ', H', cls, d, rfl, J', nb, up, sky, na, os, ag, w⟩ := xx
    have J : Inv X pins σ' H' sI := J'.ofTry ok
    have sky' : Sky B (X.env :: X.outer) a (L2N.Zn cls d) X.env.locals s'.heap := by rw [← hs]; exact sky
    show wpAny (model X.prog X.w) X.A (noteFrame (.ref a) X.env) _ _ _
    refine L2N.Sky.land L2N.Zn.steady hfr hf sky' fun h3 fl3 up3 => ?_
    have notFr : ∀ {h : Heap} {o : Obj} {vs : Array Value}, h.FunFrames B (X.env :: X.outer) → h.get? a = some o → o.data = .fields vs → a ∉ frs (X.env :: X.outer) := fun {h o vs} ff e dd hm => by
      obtain ⟨_, o', e', hnf⟩ := ff.mem hm
      rw [e] at e'; cases e'
      exact hnf _ dd
    obtain ⟨oe3, vs3, he3, hz3, hd3⟩ := fl3.there
    have nfr := notFr fl3.2.2.1 he3 hd3
    have nL : a ≠ X.env.locals := fun z => nfr (List.mem_filterMap.mpr ⟨X.env, List.mem_cons_self, by rw [hf, z]⟩)
    have nF : a ∉ X.fs := fun hm => by
      obtain ⟨e, he, q⟩ := List.mem_filterMap.mp hm
      exact nfr (List.mem_filterMap.mpr ⟨e, List.mem_cons_of_mem _ he, q⟩)
    have go : ∀ {hds' : List ExceptHandler} {l' : List Cl}, ClsOk X hds' l' → ∀ h3, HandSPX.FlyingZ B (X.env :: X.outer) a (L2N.Zn cls d) h3 → s'.heap.UpToSlots h3 → wCl Wout D l' cls d σ' H' →
        wpAny (model X.prog X.w) X.A (handleBy (.ref a) X.env hds') (SP X pins D) X.xe { s' with heap := h3 } := by
      intro hds' l' hk
      induction hk with
      | nil =>
        intro h3 fl3 up3 w
        refine wpAny_handleBy_nil ?_
        obtain ⟨k1, k2, k3, oe, vs, T, oT, ts', he, hz, hd, h1, hr⟩ := id fl3
        unfold PySem.passOn
        refine wpAny_bind (wpAny_field he hd h1 ?_)
        rw [if_neg (show ¬ ((Value.ref T == Value.none) = true) from by simp)]
        have fin : wpAny (model X.prog X.w) X.A (setFlight (.ref a) X.env.frame) (fun _ s4 => wpAny (model X.prog X.w) X.A (throw (.ref a) : Sem Flow) (SP X pins D) X.xe s4) X.xe { s' with heap := h3 } := by
          rw [hf]
          refine HandSPX.setFlight_upZ fl3 fun h4 hh4 up4 => wpAny_throw (tk _ _ ?_)
          exact ⟨a, B, sI, pins, σ', H', cls, d, rfl, J, nb, (up.trans up3).trans up4, .inr (.inr (by rw [hs]; exact hh4)), na, os, ag, w⟩
        first
          | exact wpAny_bind (wpAny_pure (wpAny_bind fin))
          | exact wpAny_bind fin
      | @one t T ts b₀ suite pos' hds2 l2 hc hsu r ih =>
        intro h3 fl3 up3 w
        obtain ⟨b, hb1, hyes, hno⟩ := w
        have J3 : Inv X pins σ' H' { s' with heap := h3 } := J.landed nb fl3.1 (up.trans up3) os ag
        obtain ⟨oe3, vs3, he3, hz3, hd3⟩ := fl3.there
        have S3 := J3.suite he3 hd3 na nL nF
        refine wpAny_handleBy_cons (codeAny_handlers_test ?_) (by intro q; cases q)
        refine hc a oe3 _ _ _ _ cls b _ _ S3 he3 hz3.1 hb1 fun h4 k4 => ?_
        have fl4 := fly_keep k4 fl3
        have up4 := up3.trans (Heap.UpToSlots.of_keeps k4)
        cases b with
        | true =>
          refine codeAny_handlers_suite ?_
          refine HandSPX.lands_againZ fl4 fun h5 fl5 up5 => ?_
          have J5 : Inv X pins σ' H' { s' with heap := h5 } := J.landed nb fl5.1 ((up.trans up4).trans up5) os ag
          obtain ⟨oe5, vs5, he5, hz5, hd5⟩ := fl5.there
          have S5 := J5.suite he5 hd5 na nL nF
          refine wpAny_mono ((hsu a oe5 cls d (X.pn ++ pins) hz5 ⟨_, hd5⟩).run [] _ _ H' _ S5 (hyes rfl a na)) (fun f s6 hsp => ?_) (fun _ _ z => False.elim z)
          cases f with
          | next =>
            obtain ⟨σ6, H6, S6, q6⟩ := hsp
            exact ⟨_, _, S6.unsuite ok, q6⟩
          | brk =>
            obtain ⟨σ6, H6, S6, q6⟩ := hsp
            exact ⟨_, _, S6.unsuite ok, q6⟩
          | cont =>
            obtain ⟨σ6, H6, S6, q6⟩ := hsp
            exact ⟨_, _, S6.unsuite ok, q6⟩
          | ret u =>
            obtain ⟨v6, σ6, H6, S6, r6, q6⟩ := hsp
            exact ⟨_, _, _, S6.unsuite ok, r6, q6⟩
        | false =>
          show wpAny _ X.A (handleBy (.ref a) X.env hds2) _ _ _
          exact ih h4 fl4 up4 (hno rfl)
      | @as_ t T ts n i b₀ suite pos' hds2 l2 hc hi hln hsu r ih =>
        intro h3 fl3 up3 w
        obtain ⟨b, hb1, hyes, hno⟩ := w
        have hloc : Loc X.env.scope n := .inl hln
        have J3 : Inv X pins σ' H' { s' with heap := h3 } := J.landed nb fl3.1 (up.trans up3) os ag
        obtain ⟨oe3, vs3, he3, hz3, hd3⟩ := fl3.there
        have S3 := J3.suite he3 hd3 na nL nF
        refine wpAny_handleBy_cons (codeAny_handlers_test ?_) (by intro q; cases q)
        refine hc a oe3 _ _ _ _ cls b _ _ S3 he3 hz3.1 hb1 fun h4 k4 => ?_
        have fl4 := fly_keep k4 fl3
        have up4 := up3.trans (Heap.UpToSlots.of_keeps k4)
        cases b with
        | true =>
          refine codeAny_handlers_suite_as ?_
          refine HandSPX.lands_againZ fl4 fun h5 fl5 up5 => ?_
          have J5 : Inv X pins σ' H' { s' with heap := h5 } := J.landed nb fl5.1 ((up.trans up4).trans up5) os ag
          obtain ⟨oe5, vs5, he5, hz5, hd5⟩ := fl5.there
          have S5 := J5.suite he5 hd5 na nL nF
          refine store_ok (X := X.suite a ((a, oe5) :: (X.pn ++ pins))) (v := .ref a) S5 hN hi hloc rfl (fun s6 S6 => ?_) (.inr hln)
          refine wpAny_mono ((hsu a oe5 cls d (X.pn ++ pins) hz5 ⟨_, hd5⟩).run [] s6 _ H' _ S6 (hyes rfl a na)) (fun f s7 hsp => ?_) (fun _ _ z => False.elim z)
          have end_ : ∀ {σ6 : L2.St} {H6 : Hp} {Q : Shared → Prop}, Inv (X.suite a ((a, oe5) :: (X.pn ++ pins))) [] σ6 H6 s7 → (∀ s8, Inv X pins (σ6.set i none) H6 s8 → Q s8) →
              wpAny (model X.prog X.w) X.A (do bindName X.env n .none; unbindBehindTheSuite X.env n pos') (fun _ s8 => Q s8) X.xe s7 := fun {σ6 H6 Q} S7 hq => gone_ok (S7.unsuite ok) hN hi hln hq
          cases f with
          | next =>
            obtain ⟨σ6, H6, S7, q6⟩ := hsp
            exact end_ S7 fun s8 J8 => ⟨_, _, J8, q6⟩
          | brk =>
            obtain ⟨σ6, H6, S7, q6⟩ := hsp
            exact end_ S7 fun s8 J8 => ⟨_, _, J8, q6⟩
          | cont =>
            obtain ⟨σ6, H6, S7, q6⟩ := hsp
            exact end_ S7 fun s8 J8 => ⟨_, _, J8, q6⟩
          | ret u =>
            obtain ⟨v6, σ6, H6, S7, r6, q6⟩ := hsp
            exact end_ S7 fun s8 J8 => ⟨_, _, _, J8, r6, q6⟩
        | false =>
          show wpAny _ X.A (handleBy (.ref a) X.env hds2) _ _ _
          exact ih h4 fl4 up4 (hno rfl)
    exact go hh h3 fl3 up3 w
  · cases f with
    | next =>
      obtain ⟨σ', H', J', q⟩ := hsp
      exact wpAny_execs_nil ⟨σ', H', J'.ofTry ok, q⟩
    | brk =>
      obtain ⟨σ', H', J', q⟩ := hsp
      exact ⟨σ', H', J'.ofTry ok, q⟩
    | cont =>
      obtain ⟨σ', H', J', q⟩ := hsp
      exact ⟨σ', H', J'.ofTry ok, q⟩
    | ret u =>
      obtain ⟨v, σ', H', J', r, q⟩ := hsp
      exact ⟨v, σ', H', J'.ofTry ok, r, q⟩
end
end DL
namespace DL
open PySem PySem.Spec L2
abbrev ClM := Sub × Option Nat × MS
def putCl (io : Option Nat) (x : Exc) (s : S) : S := match io with
  | none => s
  | some i => s.put i (.xn x)
def clrCl (io : Option Nat) (s : S) : S := match io with
  | none => s
  | some i => s.put i .emp
def endCl (io : Option Nat) : R Fl → R Fl
  | .ok fl s2 => if noX (clrCl io s2) = true then .ok fl (clrCl io s2) else .stuck
  | _ => .stuck
def clauses : List ClM → Exc → MS
  | [], x => fun s => .exc x s
  | c :: r, x => fun s => match c.1 x.c with
    | some true => endCl c.2.1 (c.2.2 (putCl c.2.1 x s))
    | some false => clauses r x s
    | none => .stuck
/-- try: b, with the clauses cs -/
def mTryCl (cs : List ClM) (b : MS) : MS := fun s => if noX s = true then (match b s with
  | .exc x s' => if noX s' = true then clauses cs x s' else .stuck
  | .ok fl s' => if noX s' = true then .ok fl s' else .stuck
  | .stuck => .stuck) else .stuck
inductive JCls (X : Cx) : List ExceptHandler → List ClM → Prop
  | nil : JCls X [] []
  | one {t : Expr} {T : Value → Bool → Prop} {sub : Sub} {mh : MS} {b₀ : Stmt} {suite : List Stmt} {pos' : Pos} {hds : List ExceptHandler} {l : List ClM} (hc : TestOk X t T) (hsub : ∀ y b, sub y = some b → T (.ref (He.ga X.K y)) b)
      (hsu : ∀ (a : Addr) (oe : Obj) (cls : Value) (d : Option Addr) (pn : List (Addr × Obj)), L2N.Zn cls d oe → (∃ vs, oe.data = .fields vs) → JSs (X.suite a ((a, oe) :: pn)) WF (b₀ :: suite) mh) (r : JCls X hds l) :
      JCls X (.ExceptHandler (some t) none (b₀ :: suite) pos' :: hds) ((sub, none, mh) :: l)
  | as_ {t : Expr} {T : Value → Bool → Prop} {sub : Sub} {mh : MS} {n : Str} {i : Nat} {b₀ : Stmt} {suite : List Stmt} {pos' : Pos} {hds : List ExceptHandler} {l : List ClM} (hc : TestOk X t T) (hsub : ∀ y b, sub y = some b → T (.ref (He.ga X.K y)) b) (hi : X.N[i]? = some n) (hln : X.env.kindOf n = some .local)
      (hsu : ∀ (a : Addr) (oe : Obj) (cls : Value) (d : Option Addr) (pn : List (Addr × Obj)), L2N.Zn cls d oe → (∃ vs, oe.data = .fields vs) → JSs (X.suite a ((a, oe) :: pn)) WF (b₀ :: suite) mh) (r : JCls X hds l) :
      JCls X (.ExceptHandler (some t) (some n) (b₀ :: suite) pos' :: hds) ((sub, some i, mh) :: l)
section
variable {X : Cx}
theorem jcls_ok {hds : List ExceptHandler} {ms : List ClM} (h : JCls X hds ms) : ∃ l, ClsOk X hds l ∧ ∀ (W : WX) (D : Ends) (x : Exc) (w : Wd) (s' : S) (G' : Gh) (σ' : L2.St) (H' : Hp) (cls : Value) (d : Option Addr), w.G.le G' → Rel X.K X.pn { w with G := G', σ := σ', H := H', s := s' } → noX s' = true → XRep X.K G' cls d x → okS X.K X.pn W w D (clauses ms x s') → wCl W D l cls d σ' H' := by
  induction h with
  | nil => exact ⟨[], .nil, fun W D x w s' G' σ' H' cls d g r nx hx ok => ok G' σ' cls d H' g r hx⟩
  | @one t T sub mh b₀ suite pos' hds l hc hsub hsu r ih =>
    obtain ⟨l2, h1, h2⟩ := ih
    let ts : Addr → Value → Option Addr → TS := fun a cls d D σ H => ∀ (oe : Obj) (pn : List (Addr × Obj)), L2N.Zn cls d oe → tS X.K ((a, oe) :: pn) WF mh D σ H
    refine ⟨⟨T, none, ts⟩ :: l2, .one hc (fun a oe cls d pn hz hv => PSs.imp (hsu a oe cls d pn hz hv) fun D σ H h => h oe pn hz) h1, fun W D x w s' G' σ' H' cls d g r' nx hx ok => ?_⟩
    unfold clauses at ok
    dsimp only at ok
    cases hsb : sub x.c with
    | none => rw [hsb] at ok; exact ok.elim
    | some b =>
      rw [hsb] at ok
      refine ⟨b, by rw [hx.1]; exact hsub _ _ hsb, fun eb a ha oe pn hz => ?_, fun eb => ?_⟩
      · subst eb
        dsimp only [putCl] at ok
        refine ⟨_, rfl, rfl, Rel.pn (pn' := (a, oe) :: pn) r' nx, ?_⟩
        show okS X.K ((a, oe) :: pn) WF _ _ (mh s')
        cases hh : mh s' with
        | stuck => rw [hh] at ok; exact ok.elim
        | exc z s2 => rw [hh] at ok; exact ok.elim
        | ok fl s2 =>
          rw [hh] at ok
          unfold endCl at ok
          dsimp only at ok
          by_cases nx3 : noX (clrCl none s2) = true
          · rw [if_pos nx3] at ok
            intro G2 σ2 H2 g2 r3
            have h5 := ok G2 σ2 H2 (g.trans g2) (Rel.pn (pn' := X.pn) r3 nx3)
            cases fl with
            | nx => exact h5
            | bk => exact h5
            | ct => exact h5
            | rt d => exact h5
          · rw [if_neg nx3] at ok; exact ok.elim
      · subst eb
        exact h2 W D x w s' G' σ' H' cls d g r' nx hx ok
  | @as_ t T sub mh n i b₀ suite pos' hds l hc hsub hi hln hsu r ih =>
    obtain ⟨l2, h1, h2⟩ := ih
    let ts : Addr → Value → Option Addr → TS := fun a cls d D σ H => ∀ (oe : Obj) (pn : List (Addr × Obj)), L2N.Zn cls d oe → tS X.K ((a, oe) :: pn) WF mh D σ H
    refine ⟨⟨T, some i, ts⟩ :: l2, .as_ hc hi hln (fun a oe cls d pn hz hv => PSs.imp (hsu a oe cls d pn hz hv) fun D σ H h => h oe pn hz) h1, fun W D x w s' G' σ' H' cls d g r' nx hx ok => ?_⟩
    unfold clauses at ok
    dsimp only at ok
    cases hsb : sub x.c with
    | none => rw [hsb] at ok; exact ok.elim
    | some b =>
      rw [hsb] at ok
      refine ⟨b, by rw [hx.1]; exact hsub _ _ hsb, fun eb a ha oe pn hz => ?_, fun eb => ?_⟩
      · subst eb
        dsimp only [putCl] at ok
        have r2 := Rel.xnSet (i := i) (Rel.pn (pn' := (a, oe) :: pn) r' nx) hz.zc hx
        refine ⟨_, rfl, rfl, r2, ?_⟩
        show okS X.K ((a, oe) :: pn) WF _ _ (mh (s'.put i (.xn x)))
        cases hh : mh (s'.put i (.xn x)) with
        | stuck => rw [hh] at ok; exact ok.elim
        | exc z s2 => rw [hh] at ok; exact ok.elim
        | ok fl s2 =>
          rw [hh] at ok
          unfold endCl at ok
          dsimp only at ok
          by_cases nx3 : noX (clrCl (some i) s2) = true
          · rw [if_pos nx3] at ok
            intro G2 σ2 H2 g2 r3
            have r4 := Rel.pn (pn' := X.pn) (Rel.clr (i := i) (v := none) r3) nx3
            have h5 := ok G2 (σ2.set i none) H2 (g.trans g2) r4
            cases fl with
            | nx => exact h5
            | bk => exact h5
            | ct => exact h5
            | rt d => exact h5
          · rw [if_neg nx3] at ok; exact ok.elim
      · subst eb
        exact h2 W D x w s' G' σ' H' cls d g r' nx hx ok
theorem js_tryCl {W : WX} {body : List Stmt} {h₀ : ExceptHandler} {hds : List ExceptHandler} {ms : List ClM} {pos : Pos} {mb : MS} (hs : X.stack = X.env :: X.outer) (hf : X.env.frame = some X.env.locals) (hN : X.N.Nodup) (tk : L2N.Takes X W)
    (hb : ∀ (W' : WX) (pn : List (Addr × Obj)) (xe : Value → Shared → Prop), L2N.Takes (X.tr pn xe) W' → PassesOwn (model X.prog X.w) X.A X.env xe → JSs (X.tr pn xe) W' body mb)
    (hh : JCls X (h₀ :: hds) ms) : JS X W (.Try body (h₀ :: hds) [] [] pos) (mTryCl ms mb) := by
  let tb : WX → TS := fun W' D σ H => ∃ w : Wd, w.σ = σ ∧ w.H = H ∧ Rel X.K [] w ∧ noX w.s = true ∧ (∀ s', (∃ fl, mb w.s = .ok fl s') ∨ (∃ y, mb w.s = .exc y s') → noX s' = true) ∧ okS X.K [] W' w D (mb w.s)
  have h1 : ∀ (W' : WX) (pn : List (Addr × Obj)) (xe : Value → Shared → Prop), L2N.Takes (X.tr pn xe) W' → PassesOwn (model X.prog X.w) X.A X.env xe → PSs (X.tr pn xe) body (tb W') := fun W' pn xe t p => PSs.imp (hb W' pn xe t p) fun D σ H h => by
    obtain ⟨w, rfl, rfl, r, nx, nx2, h⟩ := h
    refine ⟨w, rfl, rfl, r.pn nx, ?_⟩
    show okS X.K pn W' w D (mb w.s)
    cases hm : mb w.s with
    | ok fl s' =>
      rw [hm] at h
      have nx3 := nx2 s' (.inl ⟨fl, hm⟩)
      exact fun G' σ' H' g r' => h G' σ' H' g (Rel.pn r' nx3)
    | exc y s' =>
      rw [hm] at h
      have nx3 := nx2 s' (.inr ⟨y, hm⟩)
      exact fun G' σ' c d H' g r' => h G' σ' c d H' g (Rel.pn r' nx3)
    | stuck => rw [hm] at h; exact h
  obtain ⟨l, hl1, hl2⟩ := jcls_ok hh
  refine PS.imp (ps_tryCl (tb := tb) (Wout := W) hs hf hN tk h1 hl1) fun D σ H h => ?_
  obtain ⟨w, rfl, rfl, r, h⟩ := h
  unfold mTryCl at h
  split at h
  · rename_i nx
    refine ⟨w, rfl, rfl, r.pn nx, nx, fun s' hs' => ?_, ?_⟩
    · rcases hs' with ⟨fl, hm⟩ | ⟨y, hm⟩
      · rw [hm] at h
        dsimp only at h
        split at h
        · assumption
        · exact h.elim
      · rw [hm] at h
        dsimp only at h
        split at h
        · assumption
        · exact h.elim
    · cases hm : mb w.s with
      | stuck => rw [hm] at h; exact h
      | ok fl s' =>
        rw [hm] at h
        dsimp only at h
        split at h
        · rename_i nx2
          exact fun G' σ' H' g r' => h G' σ' H' g (Rel.pn r' nx2)
        · exact h.elim
      | exc y s' =>
        rw [hm] at h
        dsimp only at h
        split at h
        · rename_i nx2
          intro G' σ' cls dd H' g r' hx
          exact hl2 W D y w s' G' σ' H' cls dd g (Rel.pn (pn' := X.pn) r' nx2) nx2 hx h
        · exact h.elim
  · exact h.elim
end
end DL
namespace DL
open PySem PySem.Spec PyProof.Rows L2 L2H
end DL
namespace DL
open PySem PySem.Spec L2
/-- an error class with the fields fs; without fields -/
def XN (P : Program) (K : PySem.W.Frag) (mg : Str → Option Value) (c : Str) (fs : List Str) : Prop := NC P K mg (He.ga K c) fs ∧ XfC K (He.ga K c) ∧ ExcC K (He.ga K c)
def X0 (P : Program) (K : PySem.W.Frag) (c : Str) : Prop := N0 P K (He.ga K c) ∧ XfC K (He.ga K c) ∧ ExcC K (He.ga K c)
/-- the tables over the errors of L, all under those of S and under T -/
def errTB (L S : List Str) (T : String) (K : PySem.W.Frag) : Bool := HKN.kitB L S K && (HKN.exmB L S K && (HKN.kitTB L T K && L.all fun z => HK.excB K (He.ga K z)))
def ErrT (K : PySem.W.Frag) (L S : List Str) (T : String) : Prop := errTB L S T K = true
section
variable {K : PySem.W.Frag} {L S : List Str} {T : String} {c d : Str}
theorem ErrT.kit (h : ErrT K L S T) : HKN.kitB L S K = true := (He.ba h).1
theorem ErrT.exm (h : ErrT K L S T) : HKN.exmB L S K = true := (He.ba (He.ba h).2).1
theorem ErrT.kitT (h : ErrT K L S T) : HKN.kitTB L T K = true := (He.ba (He.ba (He.ba h).2).2).1
theorem ErrT.exc (h : ErrT K L S T) : ∀ z ∈ L, ExcC K (He.ga K z) := fun z hz => HK.excB_ok (List.all_eq_true.mp (He.ba (He.ba (He.ba h).2).2).2 z hz)
theorem ErrT.isT (h : ErrT K L S T) : ∀ z b, HKN.tabT L z = some b → ExcC K (He.ga K z) ∧ PySem.W.kitOne K (.ref (He.ga K z)) (.type T) = some b :=
  HKN.tabT_ok (F := fun z b => ExcC K (He.ga K z) ∧ PySem.W.kitOne K (.ref (He.ga K z)) (.type T) = some b) fun z hz => ⟨h.exc z hz, HKN.kitTB_ok h.kitT z hz⟩
theorem ErrT.isS (h : ErrT K L S T) (hc : c ∈ S) : ∀ z b, HKN.tabT L z = some b → ExcC K (He.ga K z) ∧ PySem.W.kitOne K (.ref (He.ga K z)) (.ref (He.ga K c)) = some b :=
  HKN.tabT_ok (F := fun z b => ExcC K (He.ga K z) ∧ PySem.W.kitOne K (.ref (He.ga K z)) (.ref (He.ga K c)) = some b) fun z hz => ⟨h.exc z hz, HKN.kitB_sup h.kit hc z hz⟩
/-- the tables of except c, except s, except (c, d) -/
theorem ErrT.own (h : ErrT K L S T) (hc : c ∈ L) : ∀ z b, HKN.tabL L c z = some b → PySem.W.exmOne K (.ref (He.ga K z)) (.ref (He.ga K c)) = some b :=
  HKN.tabL_ok (F := fun z b => PySem.W.exmOne K (.ref (He.ga K z)) (.ref (He.ga K c)) = some b) (HKN.exmB_own h.exm hc)
end
end DL
namespace DL
open PySem PySem.Spec L2 LamX
/-- the heap after a new code object at c, told by the table at P -/
def tabH (H : Hp) (P c : Addr) (q : Str) (ps : Array Value) (pos : Pos) : Hp := upd (upd H P (.tbl (ps ++ #[rawInt pos.line, rawInt pos.col, .ref c]))) c (CodeO c q)
section
variable {K : PySem.W.Frag} {pn : List (Addr × Obj)} {w : Wd} {P c : Addr} {q : Str} {ps : Array Value} {pos : Pos}
theorem tabH_get {H : Hp} {a : Addr} {o : HO} (hP : H P = some (.tbl ps)) (hc : H c = none) (h : H a = some o) (n : ∀ qs, o ≠ .tbl qs) : tabH H P c q ps pos a = some o := by
  unfold tabH
  rw [upd_ne (ne_of_none h hc), upd_ne (fun e => by rw [e, hP] at h; cases h; exact n _ rfl)]
  exact h
theorem tabH_P {H : Hp} (hP : H P = some (.tbl ps)) (hc : H c = none) : tabH H P c q ps pos P = some (.tbl (ps ++ #[rawInt pos.line, rawInt pos.col, .ref c])) := by
  unfold tabH
  rw [upd_ne (ne_of_none hP hc), upd_same]
theorem tabH_other {H : Hp} {a : Addr} (hP : a ≠ P) (hc : a ≠ c) : tabH H P c q ps pos a = H a := by
  unfold tabH
  rw [upd_ne hc, upd_ne hP]
theorem Rel.lam (r : Rel K pn w) (hq : TabK K P q) (hu : ∀ q', TabK K P q' → q' = q) (hP : w.H P = some (.tbl ps)) (hc : w.H c = none) :
    Rel K pn { w with G := { w.G with F := upd w.G.F c (CodeO c q) }, H := tabH w.H P c q ps pos } := by
  have hF := r.noF hc
  have hA := r.noA hc
  have g := gle_upd (o := CodeO c q) hF
  obtain ⟨⟨ps0, hP0⟩, fP, aP, ps', hP', tr, cs⟩ := r.tb P q hq
  rw [hP] at hP'
  cases hP'
  have get : ∀ {a : Addr} {o : HO}, w.H a = some o → (∀ qs, o ≠ .tbl qs) → tabH w.H P c q ps pos a = some o := fun h n => tabH_get hP hc h n
  have nP : P ≠ c := ne_of_none hP hc
  refine ⟨fun a u h => ?_, ⟨r.le.g.trans g, r.le.nw, fun a u h => ?_, fun a u h n t => get (r.le.kp a u h n t) t, fun a u h => ?_, fun a qs h => ?_⟩, ⟨r.st.len, fun n a u h1 h2 => (r.st.at_ n a u h1 h2).mono g fun x h => ?_, fun a h => ?_, r.st.nd⟩, ⟨r.sl.len, fun i d h => ?_, fun i ds h => ?_, r.sl.dis, fun i x h => ?_⟩, fun z hz => ?_, fun P2 q2 h2 => ?_⟩
  · rcases upd_get h with ⟨e, z⟩ | ⟨e, z⟩
    · rw [e, z]; exact upd_same
    · have nt : a ≠ P := fun e2 => by rw [e2, fP] at z; cases z
      exact (tabH_other nt e).trans (r.ex a u z)
  · rcases upd_get h with ⟨e, z⟩ | ⟨e, z⟩
    · rw [e]; exact .inr (.inl (r.no0 hc))
    · exact r.le.fz a u z
  · obtain ⟨u', h'⟩ := r.le.dm a u h
    by_cases e : a = P
    · rw [e]; exact ⟨_, tabH_P hP hc⟩
    · have e2 : a ≠ c := ne_of_none h' hc
      exact ⟨u', (tabH_other e e2).trans h'⟩
  · obtain ⟨qs', h'⟩ := r.le.tt a qs h
    by_cases e : a = P
    · rw [e]; exact ⟨_, tabH_P hP hc⟩
    · exact ⟨qs', (tabH_other e (ne_of_none h' hc)).trans h'⟩
  · have m : a ∈ w.G.ad := List.mem_of_getElem? h1
    exact (tabH_other (show a ≠ P from fun e => aP (e ▸ m)) (show a ≠ c from fun e => hA (e ▸ m))).trans h
  · exact (r.st.nof a h).imp (fun z => (upd_ne (show a ≠ c from fun e => hA (e ▸ h))).trans z) fun ⟨φ, z⟩ => ⟨φ, (upd_ne (show a ≠ c from fun e => hA (e ▸ h))).trans z⟩
  · obtain ⟨v, h1, h2⟩ := r.sl.imm i d h
    exact ⟨v, h1, h2.mono g⟩
  · obtain ⟨a, vs, h1, h2, h3, h4, h5⟩ := r.sl.own i ds h
    refine ⟨a, vs, h1, get h2 (fun _ z => by cases z), h3.mono g, ?_, h5⟩
    exact (upd_ne (ne_of_none h2 hc)).trans h4
  · obtain ⟨a, oe, tl, cls, d, h1, h2, h3, h4⟩ := r.sl.xn i x h
    exact ⟨a, oe, tl, cls, d, h1, h2, h3, h4.mono g⟩
  · obtain ⟨p1, p2, p3, p4⟩ := r.pr z hz
    exact ⟨get p1 (isT_tbl p3.2), (upd_ne (ne_of_none p1 hc)).trans p2, p3, p4⟩
  · obtain ⟨h0, f2, a2, qs, hq2, tr2, cs2⟩ := r.tb P2 q2 h2
    refine ⟨h0, (upd_ne (show P2 ≠ c from ne_of_none hq2 hc)).trans f2, a2, ?_⟩
    by_cases e : P2 = P
    · subst e
      have eq := hu _ h2
      subst eq
      have eL : (ps ++ #[rawInt pos.line, rawInt pos.col, .ref c]).toList = ps.toList ++ [rawInt pos.line, rawInt pos.col, .ref c] := by simp
      refine ⟨_, tabH_P hP hc, by rw [eL]; exact PySem.TriplesOk_snoc _ _ _ _ tr, fun p' cv hcv => ?_⟩
      rw [eL] at hcv
      rcases among_app _ tr hcv with z | z
      · obtain ⟨c0, e1, e2⟩ := cs p' cv z
        exact ⟨c0, e1, g.f _ _ e2⟩
      · exact ⟨c, z, upd_same⟩
    · refine ⟨qs, (tabH_other e (ne_of_none hq2 hc)).trans hq2, tr2, fun p' cv hcv => ?_⟩
      obtain ⟨c0, e1, e2⟩ := cs2 p' cv hcv
      exact ⟨c0, e1, g.f _ _ e2⟩
end
end DL
namespace DL
open PySem PySem.Spec L2 LamX
/-- slots that tell nothing -/
def emps (n : Nat) : List Slot := List.replicate n .emp
/-- the lambda's reading as a statement -/
def mTh (th : List Ob → RO) : MS := fun s => match th s.st with
  | .ok _ st' => .ok .nx ⟨s.sl, st'⟩
  | .exc x st' => .exc x ⟨s.sl, st'⟩
  | .stuck => .stuck
def roE : R D → RO
  | .ok d s => .ok d s.st
  | .exc x s => .exc x s.st
  | .stuck => .stuck
/-- the lambda's body, on the captured slots -/
def thk (sl : List Slot) (mb : ME) : List Ob → RO := fun st => roE (mb ⟨sl, st⟩)
end DL
namespace DL
open PySem PySem.Spec L2 LamX
/-- what a lambda reads of the slots -/
def capt : Slot → Slot
  | .imm d => .imm d
  | _ => .emp
/-- the call: n the def's slots -/
def mLamT (n : Nat) (ms : List ClM) (mr : MS) (mb : ME) : ME := fun s => outR s (endR (mSeq (mTryCl ms (mTh (thk (s.sl.map capt) mb))) mr ⟨emps n, s.st⟩))
end DL
namespace DL
open PySem PySem.Spec L2 LamX
theorem room_u {k : Nat} {A : Around} (r : Room k A) : A.units + 64 < cLine := by have := r.un; omega
theorem room_u1 {k : Nat} {A : Around} (r : Room k A) : A.units + 1 < cLine := by have := r.un; omega
/-- the code object and the table of the def x -/
def lamAt (K : PySem.W.Frag) (x : Str) : Option (Addr × Addr) := match K.lookup (He.ga K x) with
  | some ⟨_, _, .func fd, _⟩ => (match fd.code with
    | .ref c => (match K.lookup c with
      | some ⟨_, _, .fields vs, _⟩ => (match vs[11]? with
        | some (Value.ref P) => if fd.qualname == x then some (c, P) else none
        | _ => none)
      | _ => none)
    | _ => none)
  | _ => none
theorem lamAt_ok {K : PySem.W.Frag} {x : Str} {c P : Addr} (h : lamAt K x = some (c, P)) : ∃ (oc : Value) (od : Option Addr) (fd : FuncData) (osl : Array (Option Value)) (cc : Value) (cd : Option Addr) (vs : Array Value) (csl : Array (Option Value)),
    K.lookup (He.ga K x) = some ⟨oc, od, .func fd, osl⟩ ∧ fd.code = .ref c ∧ K.lookup c = some ⟨cc, cd, .fields vs, csl⟩ ∧ vs[11]? = some (.ref P) ∧ fd.qualname = x := by
  unfold lamAt at h
  split at h
  · rename_i oc od fd osl e1
    split at h
    · rename_i c' e2
      split at h
      · rename_i cc cd vs csl e3
        split at h
        · rename_i P' e4
          split at h
          · rename_i e5
            cases h
            exact ⟨oc, od, fd, osl, cc, cd, vs, csl, e1, e2, e3, e4, by simpa using e5⟩
          · cases h
        · cases h
      · cases h
    · cases h
  · cases h
/-- what a def x that makes lambdas asks: its code object, its table -/
def LamOk (K : PySem.W.Frag) (mg : Str → Option Value) (base : Heap) (x : Str) : Prop := ∃ c P : Addr, lamAt K x = some (c, P) ∧ TabB base mg c P ∧ K.lookup P = none ∧ ∀ q', TabK K P q' → q' = x ++ ".<locals>." ++ "<lambda>"
theorem LamOk.tab {K : PySem.W.Frag} {x : Str} {c P : Addr} (h : lamAt K x = some (c, P)) (n : K.lookup P = none) : TabK K P (x ++ ".<locals>." ++ "<lambda>") := by
  obtain ⟨oc, od, fd, osl, cc, cd, vs, csl, e1, e2, e3, e4, e5⟩ := lamAt_ok h
  exact ⟨_, c, oc, od, fd, osl, cc, cd, vs, csl, e1, e2, e3, e4, n, by rw [e5]⟩
end DL
namespace DL
open PySem PySem.Spec L2 LamX PyProof.Rows
open Classical in
/-- H without what is at C -/
noncomputable def del (H : Hp) (C : Addr → Prop) : Hp := fun b => if C b then none else H b
open Classical in
/-- H' , at C what H tells -/
noncomputable def putC (H H' : Hp) (C : Addr → Prop) : Hp := fun b => if C b then H b else H' b
section
variable {H H' : Hp} {C : Addr → Prop} {b : Addr}
theorem del_in (h : C b) : del H C b = none := by unfold del; exact if_pos h
theorem del_out (h : ¬ C b) : del H C b = H b := by unfold del; exact if_neg h
theorem putC_in (h : C b) : putC H H' C b = H b := by unfold putC; exact if_pos h
theorem putC_out (h : ¬ C b) : putC H H' C b = H' b := by unfold putC; exact if_neg h
theorem del_some {o : HO} (h : del H C b = some o) : ¬ C b ∧ H b = some o := by
  by_cases c : C b
  · rw [del_in c] at h; cases h
  · rw [del_out c] at h; exact ⟨c, h⟩
end
/-- C: cells, held by H -/
def Cels (H : Hp) (C : Addr → Prop) : Prop := ∀ b, C b → ∃ o u, H b = some (FnO b o) ∧ o.data = .cell (some u)
section
variable {P : Program} {w : World} {H H' : Hp} {C : Addr → Prop} {h h' : Heap}
theorem Cels.not {C : Addr → Prop} (hC : Cels H C) {b : Addr} {o : HO} (e : H b = some o) (n : ∀ φ, o ≠ .ext φ) : ¬ C b := fun c => by
  obtain ⟨v, u, q, _⟩ := hC b c
  rw [e] at q
  exact n _ (Option.some.inj q)
theorem hok_del (hC : Cels H C) (ok : HOk P w H h) : HOk P w (del H C) h := fun b o e => by
  obtain ⟨nc, e⟩ := del_some e
  refine (ok b o e).stay (fun _ _ _ q => q) (fun x q => ?_) fun x xs q => ?_
  · rw [del_out (hC.not q nofun)]; exact q
  · rw [del_out (hC.not q nofun)]; exact q
theorem cel_at (hC : Cels H C) (ok : HOk P w H h) {b : Addr} (c : C b) : ∃ o u, H b = some (FnO b o) ∧ o.data = .cell (some u) ∧ h.get? b = some o := by
  obtain ⟨o, u, q, z⟩ := hC b c
  exact ⟨o, u, q, z, (ok b _ q).1⟩
theorem hok_put {h : Heap} (hC : Cels H C) (hn : ∀ b, C b → H' b = none) (hk : ∀ b v, C b → H b = some (FnO b v) → ObjOk P w H h' b (FnO b v)) (ok : HOk P w H' h') : HOk P w (putC H H' C) h' := fun b o e => by
  by_cases c : C b
  · rw [putC_in c] at e
    obtain ⟨v, u, q, _⟩ := hC b c
    rw [q] at e
    cases e
    exact hk b v c q
  · rw [putC_out c] at e
    refine (ok b o e).stay (fun _ _ _ q => q) (fun x q => ?_) fun x xs q => ?_
    · rw [putC_out (fun z => by rw [hn x z] at q; cases q)]; exact q
    · rw [putC_out (fun z => by rw [hn x z] at q; cases q)]; exact q
theorem celO_keep {b : Addr} {v : Obj} (x : ObjOk P w H h b (FnO b v)) (k : ∀ o, h.get? b = some o → h'.get? b = some o) : ObjOk P w H h' b (FnO b v) := by
  obtain ⟨p, ⟨o, e⟩, st⟩ := x
  exact ⟨st _ _ p k, ⟨o, k o e⟩, st⟩
/-- a call over the heap without the cells, seen from the heap with them -/
theorem ce_put {outer : List Env} {s s' : Shared} {Q : VK} {u : Value} (hC : Cels H C) (ok : HOk P w H s.heap) (hf : ∀ b ∈ frs outer, H b = none)
    (x : CE outer P w (del H C) s (fun v H' => (∀ b, C b → H' b = none) → Q v (putC H H' C)) u s') : CE outer P w H s Q u s' := by
  obtain ⟨v, H', os, bare, un, hok, r, q⟩ := x
  have nf : ∀ b, C b → b ∉ frs outer := fun b c m => by
    obtain ⟨v, u, z, _⟩ := hC b c
    rw [hf b m] at z; cases z
  have thr : ∀ b, C b → ∃ o, s.heap.get? b = some o := fun b c => by
    obtain ⟨v, u, z, _⟩ := hC b c
    obtain ⟨_, e, _⟩ := ok b _ z
    exact e
  have hn : ∀ b, C b → H' b = none := fun b c => let ⟨o, e⟩ := thr b c; un.free b o e (del_in c) (by simp)
  have out : ∀ {b o}, H b = some o → (∀ φ, o ≠ .ext φ) → del H C b = some o ∧ ¬ C b := fun e n => ⟨by rw [del_out (hC.not e n)]; exact e, hC.not e n⟩
  have nC : ∀ {b}, H b = none → ¬ C b := fun {b} e c => by
    obtain ⟨v, u, z, _⟩ := hC b c
    rw [e] at z; cases z
  refine ⟨v, putC H H' C, os, bare, ⟨fun b o e n hb hx => un.keep b o e (by rw [del_out (nC n)]; exact n) hb hx, fun b o e n hb hx => un.slot b o e (by rw [del_out (nC n)]; exact n) hb hx, fun b o e n hx => by rw [putC_out (nC n)]; exact un.free b o e (by rw [del_out (nC n)]; exact n) hx, un.there, fun b xs e => ?_, fun b o xs e => ?_, fun b ps e => ?_⟩, ?_, r, q hn⟩
  · obtain ⟨e1, e2⟩ := out e nofun
    rw [putC_out e2]; exact un.tups b xs e1
  · obtain ⟨e1, e2⟩ := out e nofun
    rw [putC_out e2]; exact un.frzs b o xs e1
  · obtain ⟨e1, e2⟩ := out e nofun
    rw [putC_out e2]; exact un.tbls b ps e1
  · exact hok_put (h := s.heap) hC hn (fun b v c z => celO_keep (ok b _ z) fun o e => un.keep b o e (del_in c) (nf b c) (by simp)) hok
theorem cx_put {outer : List Env} {s s' : Shared} {E : XK} {u : Value} (hC : Cels H C) (ok : HOk P w H s.heap) (hf : ∀ b ∈ frs outer, H b = none)
    (x : L2N.CX P w outer (del H C) s (fun c d H' => (∀ b, C b → H' b = none) → E c d (putC H H' C)) u s') : L2N.CX P w outer H s E u s' := by
  obtain ⟨a, B, H', cls, d, e, fl, hok, ub, na, os, bare, q⟩ := x
  have nf : ∀ b, C b → b ∉ frs outer := fun b c m => by
    obtain ⟨v, u, z, _⟩ := hC b c
    rw [hf b m] at z; cases z
  have thr : ∀ b, C b → ∃ o, s.heap.get? b = some o := fun b c => by
    obtain ⟨v, u, z, _⟩ := hC b c
    obtain ⟨_, e, _⟩ := ok b _ z
    exact e
  have hn : ∀ b, C b → H' b = none := fun b c => let ⟨o, e⟩ := thr b c; ub.free b o e (del_in c)
  have out : ∀ {b o}, H b = some o → (∀ φ, o ≠ .ext φ) → del H C b = some o ∧ ¬ C b := fun e n => ⟨by rw [del_out (hC.not e n)]; exact e, hC.not e n⟩
  have nC : ∀ {b}, H b = none → ¬ C b := fun {b} e c => by
    obtain ⟨v, u, z, _⟩ := hC b c
    rw [e] at z; cases z
  refine ⟨a, B, putC H H' C, cls, d, e, fl, ?_, ⟨fun b o e n hb => ub.keep b o e (by rw [del_out (nC n)]; exact n) hb, ub.slot, fun b o e n => by rw [putC_out (nC n)]; exact ub.free b o e (by rw [del_out (nC n)]; exact n), ub.there, fun b xs e => ?_, fun b o xs e => ?_, fun b ps e => ?_⟩, ?_, os, bare, q hn⟩
  · exact hok_put (h := s.heap) hC hn (fun b v c z => celO_keep (ok b _ z) fun o e => ub.keep b o e (del_in c) (nf b c)) hok
  · obtain ⟨e1, e2⟩ := out e nofun
    rw [putC_out e2]; exact ub.tups b xs e1
  · obtain ⟨e1, e2⟩ := out e nofun
    rw [putC_out e2]; exact ub.frzs b o xs e1
  · obtain ⟨e1, e2⟩ := out e nofun
    rw [putC_out e2]; exact ub.tbls b ps e1
  · have nc : ¬ C a := fun c => by
      obtain ⟨o, z⟩ := thr a c
      have z2 := ub.keep a o z (del_in c) (nf a c)
      have z3 : B.get? a = none := fl.2.1
      rw [z3] at z2; cases z2
    rw [putC_out nc]; exact na
end
abbrev envL (l : Lam) (cl : List (Str × Addr)) (L f c' : Addr) : Env := PySem.W.envX l.q l.sc L f (.ref c') (cloFrom cl l.sc.names [])
def lamC (P : Program) (w : World) (K : PySem.W.Frag) (mg : Str → Option Value) (base : Heap) (A : Around) (outer : List Env) (s : Shared) (H : Hp) (E : XK) (l : Lam) (cl : List (Str × Addr)) (f c' : Addr) : Cx where
  prog := P
  w := w
  K := K
  mg := mg
  base := base
  A := A.deeper (envL l cl s.heap.objs.size f c')
  N := frees l
  s_0 := s
  H_0 := H
  env := envL l cl s.heap.objs.size f c'
  outer := outer
  stack := envL l cl s.heap.objs.size f c' :: outer
  ex := []
  fn := fun _ => false
  calm := true
  pn := []
  xe := fun e s' => wpAny (model P w) (A.deeper (envL l cl s.heap.objs.size f c')) (leaving (envL l cl s.heap.objs.size f c') e) (fun _ s'' => L2N.CX P w outer H s E e s'') (fun e' s'' => L2N.CX P w outer H s E e' s'') s'
/-- what is asked of a lambda's names -/
structure LamN (l : Lam) : Prop where
  kind : l.sc.kind = .function
  co : l.sc.isCoroutine = false
  gen : l.sc.isGenerator = false
  own : ∀ y ∈ l.sc.names, y.2 ≠ .local ∧ y.2 ≠ .cell
def lamNB (l : Lam) : Bool := decide (l.sc.kind = .function) && !l.sc.isCoroutine && !l.sc.isGenerator && l.sc.names.all fun y => !decide (y.2 = .local) && !decide (y.2 = .cell)
theorem lamN_by {l : Lam} (h : lamNB l = true) : LamN l := by
  unfold lamNB at h
  simp only [Bool.and_eq_true, Bool.not_eq_true', decide_eq_true_eq, decide_eq_false_iff_not, List.all_eq_true] at h
  obtain ⟨⟨⟨h1, h2⟩, h3⟩, h4⟩ := h
  exact ⟨h1, h2, h3, fun y hy => h4 y hy⟩
/-- the cells of the names that l takes from around -/
def celsOf (cl : List (Str × Addr)) (ns : List Str) : Addr → Prop := fun b => ∃ x ∈ ns, cl.lookup x = some b
section
variable {P : Program} {w : World} {K : PySem.W.Frag} {mg : Str → Option Value} {base : Heap} {l : Lam} {cl : List (Str × Addr)} {cvs : List (Str × V)} {H : Hp} {f c' : Addr}
theorem frees_of {y : Str} (h : (y, NameKind.free) ∈ l.sc.names) : y ∈ frees l := List.mem_map.mpr ⟨_, List.mem_filter.mpr ⟨h, by simp⟩, rfl⟩
theorem lamC_start {A : Around} {outer : List Env} {s1 : Shared} {E : XK} {h₁ : Heap} {tk : Nat} {HZ : Hp} (L : LamN l) (e0 : Env0 P w K mg base A outer s1 HZ) (hd : A.handled = none)
    (hin : ∀ x y c, cl.lookup x = some c → cl.lookup y = some c → x = y) (hcv : ∀ p ∈ cvs, ∃ c u, cl.lookup p.1 = some c ∧ RelV p.2 u ∧ s1.heap.IsCell c (some u) ∧ HZ c = none) (hns' : cvs.map (·.1) = frees l)
    (hns : h₁.Ns s1.heap.objs.size fun y => ([] : List (Str × Value)).reverse.lookup y) (kp : ∀ b o, s1.heap.get? b = some o → h₁.get? b = some o) :
    Inv (lamC P w K mg base A outer s1 HZ E l cl f c') [] (cvs.map fun p => some p.2) HZ { s1 with heap := h₁, toks := tk } := by
  have hfree : ∀ y, (y, NameKind.free) ∈ l.sc.names → ∃ c u v, cl.lookup y = some c ∧ (y, v) ∈ cvs ∧ RelV v u ∧ s1.heap.IsCell c (some u) ∧ HZ c = none := fun y hy => by
    have m := frees_of hy
    rw [← hns'] at m
    obtain ⟨p, hp, e⟩ := List.mem_map.mp m
    obtain ⟨c, u, a1, a2, a3, a4⟩ := hcv p hp
    subst e
    exact ⟨c, u, p.2, a1, hp, a2, a3, a4⟩
  have cm : ∀ {y c}, (cloFrom cl l.sc.names []).lookup y = some c → cl.lookup y = some c ∧ (y, NameKind.free) ∈ l.sc.names := fun {y c} e => by
    rcases cloFrom_mem (PySem.mem_of_lookup e) with hm | ⟨h1, h2⟩
    · cases hm
    · obtain ⟨c1, _, _, hc, _⟩ := hfree _ h1
      have e2 : c = c1 := by rw [h2, hc] <;> rfl
      rw [e2]
      exact ⟨hc, h1⟩
  have look : ∀ {y}, l.sc.names.lookup y = some .free → ∃ c, (cloFrom cl l.sc.names []).lookup y = some c := fun {y} hl => mem_lookup (cloFrom_has (cells := cl) (acc := []) (PySem.mem_of_lookup hl))
  have cellK : ∀ {c : Addr} {v : Option Value}, s1.heap.IsCell c v → h₁.IsCell c v := fun {c v} z => z.keeps kp
  have noA : ∀ b : Addr, b ∉ (lamC P w K mg base A outer s1 HZ E l cl f c').ex := fun b z => absurd (show b ∈ ([] : List Addr) from z) (by simp)
  refine ⟨⟨e0.mod, L.kind, rfl, rfl, Nat.le_refl _, fun y z c e1 e2 => hin y z c (cm e1).1 (cm e2).1, fun y hy => ?_, fun y c z _ => ?_, fun _ => hd, Around.frames_deeper e0.frames, .inr ⟨rfl, rfl⟩, fun b z => absurd z (noA b), e0.bs, e0.bsz, fun b _ _ => noA b,
      fun b z => absurd z (noA b), e0.funs, e0.frf⟩,
    rfl, e0.bare, Un.kept kp, ⟨_, hns, fun i y v e1 e2 e3 => ?_⟩, fun y c e => ?_, e0.hok.fresh (Nat.le_refl _), fun y c e => ?_, fun q hq => absurd (show q ∈ ([] : List (Addr × Obj)) ++ [] from hq) (by simp), e0.hok.kept kp, ?_⟩
  · have hy : l.sc.names.lookup y = some .cell ∨ l.sc.names.lookup y = some .free := hy
    rcases hy with hy | hy
    · exact absurd rfl (L.own _ (PySem.mem_of_lookup hy)).2
    · exact look hy
  · have z : false = true := z
    cases z
  · have e3 : Vis l.sc y := e3
    rcases e3 with k | k | k
    · exact absurd rfl (L.own _ (PySem.mem_of_lookup k)).1
    · exact absurd rfl (L.own _ (PySem.mem_of_lookup k)).2
    · have e1 : (frees l)[i]? = some y := e1
      have e2 : (cvs.map fun p => some p.2)[i]? = some (some v) := e2
      rw [← hns', List.getElem?_map] at e1
      rw [List.getElem?_map] at e2
      cases hp : cvs[i]? with
      | none => rw [hp] at e1; cases e1
      | some p =>
        rw [hp] at e1 e2
        have e1 : p.1 = y := Option.some.inj e1
        have e2 : p.2 = v := Option.some.inj (Option.some.inj e2)
        subst e1 e2
        obtain ⟨c, u, a1, a2, a3, a4⟩ := hcv p (List.mem_of_getElem? hp)
        obtain ⟨c2, h2⟩ := look k
        have c1 := (cm h2).1
        rw [a1] at c1
        cases c1
        exact ⟨u, a2, .inr ⟨.inr k, c, h2, cellK a3⟩⟩
  · obtain ⟨z1, z2⟩ := cm e
    obtain ⟨c1, u, v, a1, _, _, a3, _⟩ := hfree _ z2
    rw [z1] at a1
    cases a1
    exact ⟨_, cellK a3⟩
  · obtain ⟨z1, z2⟩ := cm e
    obtain ⟨c1, u, v, a1, _, _, _, a4⟩ := hfree _ z2
    rw [z1] at a1
    cases a1
    exact a4
  · show (cvs.map fun p => some p.2).length = (frees l).length
    rw [← hns', List.length_map, List.length_map]
end
end DL
namespace DL
open PySem PySem.Spec L2 LamX PyProof.Rows
/-- all but the ext's -/
structure Gh.lx (G G' : Gh) : Prop where
  f : ∀ a o, G.F a = some o → (∀ φ, o ≠ .ext φ) → G'.F a = some o
  d : ∀ (n : Nat) a, G.ad[n]? = some a → G'.ad[n]? = some a
section
variable {K : PySem.W.Frag} {G G' : Gh}
theorem sqT_lx {F F' : Hp} {a : Addr} {xs : List V} (e : ∀ a o, F a = some o → (∀ φ, o ≠ .ext φ) → F' a = some o) (h : SqT K F a xs) : SqT K F' a xs := by
  rcases h with (h | ⟨o, h⟩) | h
  · exact .inl (.inl (e _ _ h nofun))
  · exact .inl (.inr ⟨o, e _ _ h nofun⟩)
  · exact .inr h
theorem sqL_lx {F F' : Hp} {a : Addr} {xs : List V} (e : ∀ a o, F a = some o → (∀ φ, o ≠ .ext φ) → F' a = some o) (h : SqL K F a xs) : SqL K F' a xs := by
  rcases h with (h | ⟨o, h⟩) | h
  · exact .inl (.inl (e _ _ h nofun))
  · exact .inl (.inr ⟨o, e _ _ h nofun⟩)
  · exact .inr h
mutual
theorem Rep.lx (e : G.lx G') : ∀ {v : V} {d : D}, Rep K G v d → Rep K G' v d
  | _, _, .non => .non
  | _, _, .bl b => .bl b
  | _, _, .int i => .int i
  | _, _, .str x => .str x
  | _, _, .tup h r => .tup (e.f _ _ h nofun) (Reps.lx e r)
  | _, _, .lst h r => .lst (e.f _ _ h nofun) (Reps.lx e r)
  | _, _, .kl h r => .kl (sqL_lx e.f h) (Reps.lx e r)
  | _, _, .kt h r => .kt (sqT_lx e.f h) (Reps.lx e r)
  | _, _, .nod h => .nod (e.f _ _ h nofun)
  | _, _, .loc h => .loc (e.d _ _ h)
  | _, _, .ins h r => .ins (e.f _ _ h nofun) (RepF.lx e r)
  | _, _, .cla c => .cla c
theorem Reps.lx (e : G.lx G') : ∀ {v : List V} {d : List D}, Reps K G v d → Reps K G' v d
  | _, _, .nil => .nil
  | _, _, .cons h r => .cons (Rep.lx e h) (Reps.lx e r)
theorem RepF.lx (e : G.lx G') : ∀ {v : List (Str × V)} {d : List (Str × D)}, RepF K G v d → RepF K G' v d
  | _, _, .nil => .nil
  | _, _, .cons h r => .cons (Rep.lx e h) (RepF.lx e r)
end
theorem KvRel.lx {κ : Type} (e : G.lx G') {a : List (κ × V)} {b : List (κ × D)} (h : KvRel K G a b) : KvRel K G' a b := Paired.mapP h fun _ _ ⟨x, y⟩ => ⟨x, y.lx e⟩
end
noncomputable def Gh.del (G : Gh) (C : Addr → Prop) : Gh := { G with F := DL.del G.F C }
section
variable {K : PySem.W.Frag} {pn : List (Addr × Obj)} {G : Gh} {H : Hp} {C : Addr → Prop}
theorem lx_del (hC : Cels H C) (ex : ∀ a o, G.F a = some o → H a = some o) : G.lx (G.del C) := ⟨fun a o e n => by
  show del G.F C a = some o
  rw [del_out (hC.not (ex a o e) n)]; exact e, fun _ _ h => h⟩
/-- not looked at -/
def hideO : Ob → Ob
  | .clo _ _ => .hid
  | o => o
def hide (st : List Ob) : List Ob := st.map hideO
def isClo : Ob → Bool
  | .clo _ _ => true
  | _ => false
/-- st', its lambdas again those of st -/
def unhide : List Ob → List Ob → List Ob
  | o :: st, o' :: st' => (if isClo o then o else o') :: unhide st st'
  | _, st' => st'
theorem unhide_len : ∀ (st st' : List Ob), (unhide st st').length = st'.length
  | [], _ => by unfold unhide; rfl
  | _ :: _, [] => rfl
  | _ :: st, _ :: st' => congrArg Nat.succ (unhide_len st st')
theorem unhide_get : ∀ {st st' : List Ob} {n : Nat} {o : Ob}, (unhide st st')[n]? = some o → (st[n]? = some o ∧ isClo o = true) ∨ st'[n]? = some o
  | [], _, _, _, h => .inr (by unfold unhide at h; exact h)
  | _ :: _, [], n, o, h => by
    have h : ([] : List Ob)[n]? = some o := h
    cases h
  | x :: st, y :: st', 0, o, h => by
    have h : some (if isClo x then x else y) = some o := h
    split at h
    · rename_i c
      cases h
      exact .inl ⟨rfl, c⟩
    · cases h
      exact .inr rfl
  | x :: st, y :: st', n + 1, o, h => by
    have h : (unhide st st')[n]? = some o := h
    exact unhide_get (st := st) (st' := st') h
/-- what the object at a cell of the store is not -/
def NoCel (H : Hp) (C : Addr → Prop) : Prop := ∀ b o, C b → H b = some (FnO b o) → (∀ v, o.data ≠ .cell v) → False
theorem nocel {P : Program} {w : World} {h : Heap} (hC : Cels H C) (ok : HOk P w H h) : NoCel H C := fun b o c e n => by
  obtain ⟨o', u, _, z2, z1⟩ := cel_at hC ok c
  have z3 : h.get? b = some o := (ok b _ e).1
  rw [z1] at z3
  cases z3
  exact n _ z2
theorem nocode {P : Program} {w : World} {h : Heap} (hC : Cels H C) (ok : HOk P w H h) {b : Addr} {q : Str} (e : H b = some (CodeO b q)) : ¬ C b := fun c => by
  obtain ⟨o', u, _, z2, z1⟩ := cel_at hC ok c
  obtain ⟨⟨oc, vs, t, z3, z4, _⟩, _⟩ := ok b _ e
  rw [z1] at z3
  cases z3
  rw [z2] at z4
  cases z4
end
end DL
namespace DL
open PySem PySem.Spec L2 LamX PyProof.Rows
section
variable {K : PySem.W.Frag} {pn : List (Addr × Obj)} {C : Addr → Prop} {w : Wd}
/-- the slots of the body -/
def slF (fs : List (Str × D)) : List Slot := fs.map fun p => .imm p.2
theorem slF_get {fs : List (Str × D)} {i : Nat} {x : Slot} (h : (slF fs)[i]? = some x) : ∃ p, fs[i]? = some p ∧ x = .imm p.2 := by
  unfold slF at h
  rw [List.getElem?_map] at h
  cases hp : fs[i]? with
  | none => rw [hp] at h; cases h
  | some p => rw [hp] at h; exact ⟨p, rfl, (Option.some.inj h).symm⟩
theorem repF_at {G : Gh} : ∀ {cvs : List (Str × V)} {fs : List (Str × D)} {i : Nat} {p : Str × D}, RepF K G cvs fs → fs[i]? = some p → ∃ v, cvs[i]? = some (p.1, v) ∧ Rep K G v p.2
  | _, _, _, _, .nil, e => by simp at e
  | _, _, 0, p, .cons h _, e => by simp at e; subst e; exact ⟨_, rfl, h⟩
  | _, _, i + 1, p, .cons _ r, e => by
    obtain ⟨v, h1, h2⟩ := repF_at (i := i) r (by simpa using e)
    exact ⟨v, by simpa using h1, h2⟩
theorem repF_len' {G : Gh} : ∀ {cvs : List (Str × V)} {fs : List (Str × D)}, RepF K G cvs fs → cvs.length = fs.length
  | _, _, .nil => rfl
  | _, _, .cons _ r => congrArg Nat.succ (repF_len' r)
theorem repF_fst {G : Gh} : ∀ {cvs : List (Str × V)} {fs : List (Str × D)}, RepF K G cvs fs → cvs.map (·.1) = fs.map (·.1)
  | _, _, .nil => rfl
  | _, _, .cons _ r => congrArg (List.cons _) (repF_fst r)
/-- the world of the body -/
noncomputable abbrev wBody (C : Addr → Prop) (w : Wd) (cvs : List (Str × V)) (fs : List (Str × D)) : Wd := ⟨w.G.del C, del w.H C, w.G.del C, cvs.map (fun p => some p.2), del w.H C, ⟨slF fs, hide w.s.st⟩, []⟩
theorem nad (r : Rel K pn w) (hC : Cels w.H C) (nc : NoCel w.H C) {a : Addr} (m : a ∈ w.G.ad) : ¬ C a := fun c => by
  obtain ⟨n, hn⟩ := List.mem_iff_getElem?.mp m
  obtain ⟨hl, _⟩ := List.getElem?_eq_some_iff.mp hn
  have hl2 : n < w.s.st.length := by rw [← r.st.len]; exact hl
  have ob := r.st.at_ n a w.s.st[n] hn (List.getElem?_eq_getElem hl2)
  cases ho : w.s.st[n] with
  | dct kvs => rw [ho] at ob; obtain ⟨vs, q, _⟩ := ob; exact hC.not q nofun c
  | dtt kvs => rw [ho] at ob; obtain ⟨vs, q, _⟩ := ob; exact hC.not q nofun c
  | ins cc fs => rw [ho] at ob; obtain ⟨dx, vs, q, _⟩ := ob; exact hC.not q nofun c
  | lst ds => rw [ho] at ob; obtain ⟨vs, q, _⟩ := ob; exact hC.not q nofun c
  | «fun» l cl => rw [ho] at ob; obtain ⟨_, _, _, _, q, _⟩ := ob; exact nc a _ c q fun v z => by cases z
  | clo l fs => rw [ho] at ob; obtain ⟨_, _, ⟨_, _, _, _, q, _⟩, _⟩ := ob; exact nc a _ c q fun v z => by cases z
  | hid => rw [ho] at ob; obtain ⟨o, _, q, z⟩ := ob; exact nc a o c q z
/-- the body's world stands -/
theorem rel_body {cvs : List (Str × V)} {fs : List (Str × D)} (r : Rel K pn w) (hC : Cels w.H C) (nc : NoCel w.H C) (ncd : ∀ b q, w.H b = some (CodeO b q) → ¬ C b) (hr : RepF K w.G cvs fs) : Rel K [] (wBody C w cvs fs) := by
  have lx := lx_del hC r.ex
  have na := fun {a} m => nad r hC nc (a := a) m
  have fn : ∀ {a o}, (∀ v, o.data ≠ .cell v) → w.H a = some (FnO a o) → ¬ C a := fun n e c => nc _ _ c e n
  have lam : ∀ {a l cl}, LamAt w.G w.H a l cl → LamAt (w.G.del C) (del w.H C) a l cl := fun {a l cl} ⟨pm, c', ctv, h1, h2, h3⟩ => by
    have c1 : ¬ C a := fn (fun v z => by cases z) h2
    exact ⟨pm, c', ctv, (show del w.G.F C a = _ by rw [del_out c1]; exact h1), by rw [del_out c1]; exact h2, (show del w.G.F C c' = _ by rw [del_out (ncd _ _ (r.ex _ _ h3))]; exact h3)⟩
  refine ⟨fun a o h => ?_, Le.refl _ _, ⟨?_, fun n a o h1 h2 => ?_, fun a m => ?_, r.st.nd⟩, ⟨?_, fun i d h => ?_, fun i ds h => ?_, fun i j ds es a h => ?_, fun i x h => ?_⟩, (fun q hq => by cases hq), fun P q hP => ?_⟩
  · obtain ⟨c, e⟩ := del_some (show del w.G.F C a = some o from h)
    rw [show (wBody C w cvs fs).H a = w.H a from del_out c]
    exact r.ex a o e
  · show w.G.ad.length = (hide w.s.st).length
    unfold hide
    rw [List.length_map]; exact r.st.len
  · have h1 : w.G.ad[n]? = some a := h1
    have h2 : (hide w.s.st)[n]? = some o := h2
    have m : a ∈ w.G.ad := List.mem_of_getElem? h1
    have c := na m
    unfold hide at h2
    rw [List.getElem?_map] at h2
    cases hs : w.s.st[n]? with
    | none => rw [hs] at h2; cases h2
    | some o' =>
      rw [hs] at h2
      have h2 : hideO o' = o := Option.some.inj h2
      have ob := r.st.at_ n a o' h1 hs
      have hH : del w.H C a = w.H a := del_out c
      subst h2
      cases o' with
      | dct kvs => obtain ⟨vs, q, p⟩ := ob; exact ⟨vs, hH.trans q, p.lx lx⟩
      | dtt kvs => obtain ⟨vs, q, p⟩ := ob; exact ⟨vs, hH.trans q, p.lx lx⟩
      | ins cc fs => obtain ⟨dx, vs, q, p⟩ := ob; exact ⟨dx, vs, hH.trans q, p.lx lx⟩
      | lst ds => obtain ⟨vs, q, p⟩ := ob; exact ⟨vs, hH.trans q, p.lx lx⟩
      | «fun» l cl => exact lam ob
      | clo l fs =>
        obtain ⟨cl, cvs, h3, _⟩ := ob
        obtain ⟨pm, c', ctv, z1, z2, z3⟩ := h3
        exact ⟨_, (show del w.G.F C a = _ by rw [del_out c]; exact z1), hH.trans z2, fun v z => by cases z⟩
      | hid =>
        obtain ⟨o, z1, z2, z3⟩ := ob
        exact ⟨o, (show del w.G.F C a = _ by rw [del_out c]; exact z1), hH.trans z2, z3⟩
  · have m : a ∈ w.G.ad := m
    show del w.G.F C a = none ∨ ∃ φ, del w.G.F C a = some (.ext φ)
    rw [del_out (na m)]
    exact r.st.nof a m
  · show (cvs.map fun p => some p.2).length = (slF fs).length
    unfold slF
    rw [List.length_map, List.length_map]
    exact repF_len' hr
  · obtain ⟨p, h1, h2⟩ := slF_get h
    cases h2
    obtain ⟨v, h3, h4⟩ := repF_at hr h1
    refine ⟨v, ?_, h4.lx lx⟩
    show (cvs.map fun p => some p.2)[i]? = some (some v)
    rw [List.getElem?_map, h3]; rfl
  · obtain ⟨p, _, h2⟩ := slF_get h; cases h2
  · obtain ⟨p, _, h2⟩ := slF_get h; cases h2
  · obtain ⟨p, _, h2⟩ := slF_get h; cases h2
  · obtain ⟨_, f, a, ps, e, tr, cs⟩ := r.tb P q hP
    have c : ¬ C P := hC.not e nofun
    have e' : del w.H C P = some (.tbl ps) := by rw [del_out c]; exact e
    refine ⟨⟨ps, e'⟩, (show del w.G.F C P = none by rw [del_out c]; exact f), a, ps, e', tr, fun pos cv h => ?_⟩
    obtain ⟨c1, z1, z2⟩ := cs pos cv h
    exact ⟨c1, z1, (show del w.G.F C c1 = _ by rw [del_out (ncd _ _ (r.ex _ _ z2))]; exact z2)⟩
/-- the world behind it -/
noncomputable def Gh.back (G G' : Gh) (C : Addr → Prop) : Gh := { F := putC G.F G'.F C, ad := G'.ad }
theorem rel_back {cvs : List (Str × V)} {fs : List (Str × D)} {G' : Gh} {H' : Hp} {σ' : L2.St} {s' : S} (r : Rel K pn w) (hC : Cels w.H C) (nc : NoCel w.H C)
    (g0 : (w.G.del C).le G') (r' : Rel K [] { wBody C w cvs fs with G := G', σ := σ', H := H', s := s' }) (hn : ∀ b, C b → H' b = none) :
    w.G.le (w.G.back G' C) ∧ G'.le (w.G.back G' C) ∧ Rel K pn { w with G := w.G.back G' C, H := putC w.H H' C, s := { w.s with st := unhide w.s.st s'.st } } := by
  have na := fun {a} m => nad r hC nc (a := a) m
  have nC : ∀ {b}, w.H b = none → ¬ C b := fun {b} e c => by
    obtain ⟨v, u, z, _⟩ := hC b c
    rw [e] at z; cases z
  have fn : ∀ {b}, C b → G'.F b = none := fun {b} c => by
    cases q : G'.F b with
    | none => rfl
    | some o =>
      have q2 : H' b = some o := r'.ex b o q
      rw [hn b c] at q2; cases q2
  have gF : ∀ {a o}, w.G.F a = some o → putC w.G.F G'.F C a = some o := fun {a o} e => by
    by_cases c : C a
    · rw [putC_in c]; exact e
    · rw [putC_out c]
      exact g0.f a o (show del w.G.F C a = some o by rw [del_out c]; exact e)
  have g1 : w.G.le (w.G.back G' C) := ⟨fun a o e => gF e, fun n a e => g0.d n a e⟩
  have g2 : G'.le (w.G.back G' C) := ⟨fun a o e => by
    have c : ¬ C a := fun c => by rw [fn c] at e; cases e
    show putC w.G.F G'.F C a = some o
    rw [putC_out c]; exact e, fun n a e => e⟩
  have nad' : ∀ {a}, a ∈ G'.ad → ¬ C a := fun {a} m c => by
    obtain ⟨u, q⟩ := r'.st.there m
    have q2 : H' a = some u := q
    rw [hn a c] at q2; cases q2
  have hH : ∀ {a o}, H' a = some o → putC w.H H' C a = some o := fun {a o} e => by
    rw [putC_out (fun c => by rw [hn a c] at e; cases e)]; exact e
  have exl : ∀ a o, (w.G.back G' C).F a = some o → putC w.H H' C a = some o := fun a o e => by
    have e : putC w.G.F G'.F C a = some o := e
    by_cases c : C a
    · rw [putC_in c] at e ⊢; exact r.ex a o e
    · rw [putC_out c] at e ⊢; exact r'.ex a o e
  have le : Le w.G w.H (w.G.back G' C) (putC w.H H' C) := by
    refine ⟨g1, fun a m => ?_, fun a o e => ?_, fun a o e n t => ?_, fun a o e => ?_, fun a ps e => ?_⟩
    · rcases r'.le.nw a m with z | z
      · exact .inl z
      · have z : del w.H C a = none := z
        rw [del_out (nad' m)] at z; exact .inr z
    · have e : putC w.G.F G'.F C a = some o := e
      by_cases c : C a
      · rw [putC_in c] at e; exact .inl e
      · rw [putC_out c] at e
        rcases r'.le.fz a o e with z | z | ⟨vs, z1, z2, z3⟩
        · exact .inl (del_some (show del w.G.F C a = some o from z)).2
        · have z : del w.H C a = none := z
          rw [del_out c] at z; exact .inr (.inl z)
        · exact .inr (.inr ⟨vs, z1, z2, fun o' h => z3 o' (show del w.H C a = some o' by rw [del_out c]; exact h)⟩)
    · by_cases c : C a
      · rw [putC_in c]; exact e
      · exact hH (r'.le.kp a o (show del w.H C a = some o by rw [del_out c]; exact e) n t)
    · by_cases c : C a
      · exact ⟨o, by rw [putC_in c]; exact e⟩
      · obtain ⟨o', z⟩ := r'.le.dm a o (show del w.H C a = some o by rw [del_out c]; exact e)
        exact ⟨o', hH z⟩
    · have c : ¬ C a := hC.not e nofun
      obtain ⟨qs, z⟩ := r'.le.tt a ps (show del w.H C a = some (.tbl ps) by rw [del_out c]; exact e)
      exact ⟨qs, hH z⟩
  refine ⟨g1, g2, Rel.after r le ⟨exl, ⟨?_, fun n a o h1 h2 => ?_, fun a m => ?_, r'.st.nd⟩, fun P q hP => ?_⟩⟩
  · show G'.ad.length = (unhide w.s.st s'.st).length
    rw [unhide_len]; exact r'.st.len
  · rcases unhide_get h2 with ⟨z1, z2⟩ | z
    · have hl : n < w.G.ad.length := by rw [r.st.len]; exact (List.getElem?_eq_some_iff.mp z1).1
      have h0 : w.G.ad[n]? = some a := by
        have h3 : w.G.ad[n]? = some w.G.ad[n] := List.getElem?_eq_getElem hl
        have h4 := g1.d n _ h3
        have h1 : (w.G.back G' C).ad[n]? = some a := h1
        rw [h1] at h4; cases h4; exact h3
      have ob := r.st.at_ n a o h0 z1
      refine ob.mono g1 fun u hu => ?_
      cases o with
      | clo l fs =>
        obtain ⟨cl, cvs, ⟨pm, c', ctv, y1, y2, y3⟩, _⟩ := ob
        rw [y2] at hu
        rw [← hu]
        exact exl _ _ (gF y1)
      | _ => cases z2
    · exact (r'.st.at_ n a o h1 z).mono g2 fun u hu => hH hu
  · have m : a ∈ G'.ad := m
    show putC w.G.F G'.F C a = none ∨ ∃ φ, putC w.G.F G'.F C a = some (.ext φ)
    rw [putC_out (nad' m)]
    exact r'.st.nof a m
  · obtain ⟨⟨ps0, h0⟩, f, a, ps, e, tr, cs⟩ := r'.tb P q hP
    have c : ¬ C P := fun c => by
      have e : H' P = some (.tbl ps) := e
      rw [hn P c] at e; cases e
    have h0 : del w.H C P = some (.tbl ps0) := h0
    rw [del_out c] at h0
    refine ⟨⟨_, hH e⟩, (show putC w.G.F G'.F C P = none by rw [putC_out c]; exact f), a, ps, hH e, tr, fun pos cv h => ?_⟩
    obtain ⟨c1, z1, z2⟩ := cs pos cv h
    exact ⟨c1, z1, g2.f _ _ z2⟩
end
end DL
namespace DL
open PySem PySem.Spec L2 LamX PyProof.Rows
/-- the bodies of lambdas -/
abbrev LamT := List (Lam × ME)
open Classical in
noncomputable def thT : LamT → Lam → List (Str × D) → List Ob → RO
  | [], _, _, _ => .stuck
  | (l', mb) :: T, l, fs, st => if l = l' then roE (mb ⟨slF fs, st⟩) else thT T l fs st
def roR (st : List Ob) : RO → RO
  | .ok d st' => .ok d (unhide st st')
  | .exc x st' => .exc x (unhide st st')
  | .stuck => .stuck
noncomputable def cloR (T : LamT) (st : List Ob) : Slot → RO
  | .imm (.loc n) => (match st[n]? with
    | some (.clo l fs) => roR st (thT T l fs (hide st))
    | _ => .stuck)
  | _ => .stuck
noncomputable def mCallClo (i : Nat) (T : LamT) : ME := fun s => match s.sl[i]? with
  | some x => outR s (cloR T s.st x)
  | none => .stuck
/-- what is known of a lambda's body -/
structure LamB (P : Program) (w : World) (K : PySem.W.Frag) (mg : Str → Option Value) (base : Heap) (kb : Nat) (l : Lam) (mb : ME) : Prop where
  nm : LamN l
  bind : ∀ (cl : List (Str × Addr)) (pm cv ctv : Value), bindArgs (PySem.W.kla_fn "<lambda>" l.q l.ps l.body l.sc cl pm cv ctv) ⟨[], []⟩ = pure []
  body : ∀ (A : Around) (outer : List Env) (s : Shared) (H : Hp) (E : XK) (cl : List (Str × Addr)) (f c' : Addr), Room kb (A.deeper (envL l cl s.heap.objs.size f c')) → L2N.Takes (lamC P w K mg base A outer s H E l cl f c') (fun c d _ H => E c d H) → JE (lamC P w K mg base A outer s H E l cl f c') (fun c d _ H => E c d H) l.body mb
theorem thT_mem {T : LamT} {l : Lam} {fs : List (Str × D)} {st : List Ob} (h : thT T l fs st ≠ .stuck) : ∃ mb, (l, mb) ∈ T ∧ thT T l fs st = roE (mb ⟨slF fs, st⟩) := by
  induction T with
  | nil => exact absurd rfl h
  | cons p T ih =>
    obtain ⟨l', mb⟩ := p
    unfold thT at h ⊢
    split at h
    · rename_i e
      subst e
      exact ⟨mb, List.mem_cons_self, by rw [if_pos rfl]⟩
    · rename_i e
      obtain ⟨mb2, h1, h2⟩ := ih h
      exact ⟨mb2, List.mem_cons_of_mem _ h1, by rw [if_neg e]; exact h2⟩
section
variable {X : Cx} {W : WX} {i kb : Nat} {a : Str} {T : LamT} {p1 p2 : Pos}
theorem je_callClo (hT : ∀ p ∈ T, LamB X.prog X.w X.K X.mg X.base kb p.1 p.2) (hr : Room (kb + 1) X.A) (tk : L2N.Takes X W) (hN : X.N[i]? = some a) (hv : Vis X.env.scope a) (hd : (a == ("__debug__" : Str)) = false := by decide) (hcd : (a == ("__classdict__" : Str)) = false := by decide) :
    JE X W (.Call (.Name a p1) [] [] p2) (mCallClo i T) := by
  refine ⟨fun pins s σ H Q I h => ?_⟩
  obtain ⟨w, rfl, rfl, r, ok⟩ := h
  unfold mCallClo at ok
  cases hsl : w.s.sl[i]? with
  | none => rw [hsl] at ok; exact ok.elim
  | some x =>
    rw [hsl] at ok
    dsimp only at ok
    unfold cloR at ok
    split at ok
    · rename_i x n
      split at ok
      · rename_i l fs hst
        obtain ⟨v, hv1, hv2⟩ := r.sl.imm i _ hsl
        cases hv2 with
        | loc ha =>
          rename_i f
          obtain ⟨cl, cvs, ⟨pm, c', ctv, f1, f2, f3⟩, ⟨hin, hcs⟩, hrf, hnm⟩ := r.st.at_ n f _ ha hst
          have hns : cvs.map (·.1) = frees l := (repF_fst hrf).trans hnm
          refine wpAny_Call_Name_kw (thn ((pe_var (pos := p1) (i := i) hN hv hd hcd).run pins s w.σ w.H (fun v H1 => v = .ref f ∧ H1 = w.H) I ⟨.ref f, hv1, rfl, rfl⟩) fun u s1 ⟨v, H1, I1, r1, ev, eH⟩ => ?_)
          subst ev eH
          cases r1
          have of1 := (I1.hok f _ f2).1
          refine PySem.W.callWith_F0 ⟨_, _, _, _, of1⟩ ?_
          obtain ⟨⟨oc, vs, t, hoc, hdc, hvc⟩, _, _⟩ := I1.hok c' _ (r.ex _ _ f3)
          have hC : Cels w.H (celsOf cl (frees l)) := fun b ⟨x, hx, e⟩ => by
            rw [← hns] at hx
            obtain ⟨p, hp, e2⟩ := List.mem_map.mp hx
            obtain ⟨c, o, u, z1, z2, z3, _⟩ := hcs p hp
            subst e2
            rw [e] at z1
            cases z1
            exact ⟨o, u, r.ex _ _ z2, z3⟩
          have nc := nocel hC I1.hok
          have ncd : ∀ b q, w.H b = some (CodeO b q) → ¬ celsOf cl (frees l) b := fun b q e => nocode hC I1.hok e
          by_cases hth : thT T l fs (hide w.s.st) = .stuck
          · rw [hth] at ok; exact ok.elim
          obtain ⟨mb, hmem, heq⟩ := thT_mem hth
          rw [heq] at ok
          have B := hT _ hmem
          have e0 := I1.env0
          have e1 : Env0 X.prog X.w X.K X.mg X.base X.A X.stack s1 (del w.H (celsOf cl (frees l))) := ⟨e0.frames, e0.mod, fun b o e => ⟨(e0.bs b o e).1, by
            by_cases c : celsOf cl (frees l) b
            · exact del_in c
            · rw [del_out c]; exact (e0.bs b o e).2⟩, e0.bsz, e0.funs, fun b m => by
            by_cases c : celsOf cl (frees l) b
            · exact del_in c
            · rw [del_out c]; exact e0.frf b m, hok_del hC e0.hok, e0.bare⟩
          have rb := rel_body r hC nc ncd hrf
          have rc0 : codeAny (model X.prog X.w) X.A (.call (.ref f) ⟨[], []⟩) (CR (L2N.CX X.prog X.w) X.stack X.prog X.w (del w.H (celsOf cl (frees l))) s1 (fun v H' => (∀ b, celsOf cl (frees l) b → H' b = none) → Q v (putC w.H H' (celsOf cl (frees l)))) (fun c d H' => (∀ b, celsOf cl (frees l) b → H' b = none) → W c d w.σ (putC w.H H' (celsOf cl (frees l))))) s1 := by
            refine PySem.W.kla_callFunE hr.depth of1 rfl B.nm.co B.nm.gen rfl ⟨c', oc, vs, t, rfl, hoc, hdc, hvc⟩ ?_
            rw [B.bind]
            refine wpAny_pure (wpAny_newFunctionEnv (fun y hy => (B.nm.own y hy).2) (fun y hy => absurd hy (by simp)) (fun h₁ hns' hsb => ⟨I1.nolimit.fresh _ hsb, ?_⟩) B.nm.kind)
            show codeAny _ _ (.expr l.body (envL l cl s1.heap.objs.size f c')) _ _
            have kp : ∀ b o, s1.heap.get? b = some o → h₁.get? b = some o := fun b o e => hsb.extBut b o (Nat.ne_of_lt (Heap.lt_size e)) (Heap.get?_push_of_some _ e)
            have J := lamC_start (P := X.prog) (w := X.w) (K := X.K) (mg := X.mg) (base := X.base) (l := l) (cl := cl) (cvs := cvs) (f := f) (c' := c') (tk := s1.toks + ([] : List (Str × Value)).length) (E := fun c d H' => (∀ b, celsOf cl (frees l) b → H' b = none) → W c d w.σ (putC w.H H' (celsOf cl (frees l)))) B.nm e1 hr.hd hin (fun p hp => by
              obtain ⟨c, o, u, z1, z2, z3, z4⟩ := hcs p hp
              have cc : celsOf cl (frees l) c := ⟨p.1, by rw [← hns]; exact List.mem_map_of_mem hp, z1⟩
              exact ⟨c, u, z1, z4, ⟨o, (I1.hok c _ (r.ex _ _ z2)).1, z3⟩, del_in cc⟩) hns hns' kp
            refine PySem.W.kla_codeExpr (wpAny_mono ((B.body _ _ _ _ _ _ _ _ (hr.deeper _) (L2N.takes_of rfl rfl rfl rfl)).run [] _ _ (del w.H (celsOf cl (frees l))) _ J ⟨wBody (celsOf cl (frees l)) w cvs fs, rfl, rfl, rb, ?_⟩) (fun v s' ⟨w', H', J', rv, q⟩ => ⟨w', H', J'.os, J'.bare, J'.base, J'.hok, rv, q⟩) fun e s' hq => hq)
            show okG X.K [] _ (AR X.K) _ _ (mb ⟨slF fs, hide w.s.st⟩)
            cases hm : mb ⟨slF fs, hide w.s.st⟩ with
            | stuck => rw [hm] at ok; exact ok
            | ok d s' =>
              rw [hm] at ok
              intro G' v H' g r' p hn
              obtain ⟨g1, g2, rb2⟩ := rel_back r hC nc g r' hn
              exact ok _ _ _ g1 rb2 (p.mono g2)
            | exc x s' =>
              rw [hm] at ok
              intro G' c d H' g r' p hn
              obtain ⟨g1, g2, rb2⟩ := rel_back r hC nc g r' hn
              exact ok _ _ _ _ g1 rb2 (p.mono g2)
          have rc : codeAny (model X.prog X.w) X.A (.call (.ref f) ⟨[], []⟩) (CR (L2N.CX X.prog X.w) X.stack X.prog X.w w.H s1 Q (WE W w.σ)) s1 := codeAny_mono rc0 fun r2 s' hq => by
            cases r2 with
            | error e => exact cx_put hC I1.hok I1.stkFree hq
            | ok fl =>
              cases fl with
              | ret u => exact ce_put hC I1.hok I1.stkFree hq
              | next => exact hq
              | brk => exact hq
              | cont => exact hq
          refine wpAny_call (codeAny_mono rc fun r2 s' hq => ?_)
          cases r2 with
          | error e => exact L2N.passAt tk w.σ pins w.H s1 e s' I1 hq
          | ok fl =>
            cases fl with
            | ret u => exact I1.after hq
            | next => exact False.elim hq
            | brk => exact False.elim hq
            | cont => exact False.elim hq
      · exact ok.elim
    · exact ok.elim
end
end DL
namespace DL
open PySem PySem.Spec L2 LamX PyProof.Rows
section
variable {X : Cx} {pins : List (Addr × Obj)} {σ : L2.St} {H HZ : Hp} {s : Shared}
/-- the lambda is made and held -/
theorem lam_make4 {c P : Addr} {params : Arguments} {body : Expr} {scope : Scope} {pos : Pos} {E : Value → Shared → Prop} {Q : Value → Shared → Prop} {ps : Array Value} {C : Addr → Prop} (I : Inv X pins σ H s) (TB : TabB X.base X.mg c P) (hcode : X.env.code = .ref c)
    (hP : H P = some (.tbl ps)) (ht : TriplesOk ps.toList) (ha : ∀ (pos : Pos) (cv : Value), codeAmong pos ps.toList = some cv → ∃ c, cv = .ref c ∧ C c ∧ H c = some (CodeO c (X.env.qual ++ "<lambda>"))) (hdef : defaultsOf params X.env = ([], [])) (hfree : ∀ y ∈ scope.names, y.2 = .free → ∃ c, X.env.cells.lookup y.1 = some c)
    (h : ∀ (f c' : Addr) (pm ctv : Value) (H1 : Hp) (s' : Shared), Inv X pins σ (upd H1 f (FnO f (PySem.W.kla_obj "<lambda>" (X.env.qual ++ "<lambda>") params body scope (cloFrom X.env.cells scope.names []) pm c' ctv))) s' → H1 f = none → H1 c' = some (CodeO c' (X.env.qual ++ "<lambda>")) →
      ((H1 = H ∧ C c') ∨ (H c' = none ∧ H1 = tabH H P c' (X.env.qual ++ "<lambda>") ps pos)) → Q (.ref f) s') :
    wpAny (model X.prog X.w) X.A (eval (.Lambda params body scope pos) X.env) Q E s := by
  refine PySem.W.kla_eval hdef ?_
  have bP : s.heap.BuiltinsAt X.mg P := TB.bm.keeps I.bk
  have hP' : s.heap.get? P = some { cls := .none, data := .fields ps } := I.hok P _ hP
  cases hc : codeAmong pos ps.toList with
  | none =>
    refine PySem.W.kla_makeFunction (mg := X.mg) (c := c) (P := P) (ps := ps) (closure_ok hfree) I.ok.glob (I.mod.glob.keeps I.bk) hcode (TB.code.keeps I.bk) hP' ht hc TB.gP bP fun c' ctv h' tk hx hge hlt hrec htb => ?_
    obtain ⟨c2, oc, vs, t, e2, hoc, hd, hv⟩ := hrec
    cases e2
    have I1 := inv_table (t' := tk) (more := #[rawInt pos.line, rawInt pos.col, .ref c']) (h' := h') I hP (fun b o hb e => hx b o hb e) htb hge ⟨oc, vs, t, hoc, hd, hv⟩
    have hsz : s.heap.objs.size ≤ h'.objs.size := Nat.le_trans hge (Nat.le_of_lt hlt)
    have nf : (tabH H P c' (X.env.qual ++ "<lambda>") ps pos) h'.objs.size = none := I1.hok.fresh (Nat.le_refl _)
    refine h h'.objs.size c' ((X.mg "__name__").getD .none) ctv _ _ (Inv.laid (s := { s with heap := h', toks := tk }) (t' := tk) (a := h'.objs.size) I1 (fun b o e => Heap.get?_push_of_some _ e) (Nat.le_refl _) ⟨Heap.get?_push_size _ rfl, ⟨_, Heap.get?_push_size _ rfl⟩, fun h1 h2 p st => st _ p⟩) nf upd_same (.inr ⟨I.hok.fresh hge, rfl⟩)
  | some cv =>
    obtain ⟨c', e, hC, hco⟩ := ha pos cv hc
    subst e
    refine PySem.W.kla_makeFunctionHit (mg := X.mg) (c := c) (P := P) (ps := ps) (closure_ok hfree) I.ok.glob (I.mod.glob.keeps I.bk) hcode (TB.code.keeps I.bk) hP' ht hc bP fun ctv h' tk hx hsz => ?_
    have I1 := I.kept (t' := tk) (h' := h') hx
    refine h h'.objs.size c' ((X.mg "__name__").getD .none) ctv H _ (Inv.laid (s := { s with heap := h', toks := tk }) (t' := tk) (a := h'.objs.size) I1 (fun b o e => Heap.get?_push_of_some _ e) (Nat.le_refl _) ⟨Heap.get?_push_size _ rfl, ⟨_, Heap.get?_push_size _ rfl⟩, fun h1 h2 p st => st _ p⟩) (I1.hok.fresh (Nat.le_refl _)) hco (.inl ⟨rfl, hC⟩)
end
section
variable {K : PySem.W.Frag} {pn : List (Addr × Obj)} {w : Wd}
theorem Rel.newFn (r : Rel K pn w) {p c' : Addr} {l : Lam} {cl : List (Str × Addr)} {pm ctv : Value} (hp : w.H p = none) (hc : w.G.F c' = some (CodeO c' l.q)) :
    w.G.le { F := upd w.G.F p (FnO p (lamO l cl pm c' ctv)), ad := w.G.ad ++ [p] } ∧ Rel K pn { w with G := { F := upd w.G.F p (FnO p (lamO l cl pm c' ctv)), ad := w.G.ad ++ [p] }, H := upd w.H p (FnO p (lamO l cl pm c' ctv)), s := { w.s with st := w.s.st ++ [.fun l cl] } } := by
  have hF := r.noF hp
  have g : w.G.le { F := upd w.G.F p (FnO p (lamO l cl pm c' ctv)), ad := w.G.ad ++ [p] } := ⟨fun a o h => (upd_ne (fun e => by rw [e, hF] at h; cases h)).trans h, fun n a h => by
    show (w.G.ad ++ [p])[n]? = some a
    rw [List.getElem?_append_left (List.getElem?_eq_some_iff.mp h).1]
    exact h⟩
  have up : ∀ a x, w.H a = some x → upd w.H p (FnO p (lamO l cl pm c' ctv)) a = some x := fun a x h => by rw [upd_ne (ne_of_none h hp)]; exact h
  have tb' := r.tb.step (H' := upd w.H p (FnO p (lamO l cl pm c' ctv))) g (fun P ps z f a2 h => ⟨(upd_ne (show P ≠ p from ne_of_none h hp)).trans f, (fun hm => by
    rcases List.mem_append.mp hm with e | e
    · exact a2 e
    · have e : P = p := List.mem_singleton.mp e
      have h : w.H P = some (.tbl ps) := h
      rw [e, hp] at h; cases h), up P _ h⟩)
  have na := r.noA hp
  have nF : ∀ {a u}, w.H a = some u → w.G.F a = none → upd w.G.F p (FnO p (lamO l cl pm c' ctv)) a = none := fun h e => (upd_ne (ne_of_none h hp)).trans e
  refine ⟨g, fun a x h => ?_, ⟨r.le.g.trans g, fun a h => ?_, fun a x h => ?_, fun a x h n t => up a x (r.le.kp a x h n t), fun a x h => ?_, fun a ps h => let ⟨qs, h'⟩ := r.le.tt a ps h; ⟨qs, up a _ h'⟩⟩, ⟨?_, fun n a x h1 h2 => ?_, fun a h => ?_, ?_⟩, ⟨r.sl.len, fun i d h => ?_, fun i ds h => ?_, r.sl.dis, fun i x h => ?_⟩, fun q hq => ?_, tb'⟩
  · rcases upd_get h with ⟨e, z⟩ | ⟨e, z⟩
    · rw [e, z]; exact upd_same
    · exact up a x (r.ex a x z)
  · rcases List.mem_append.mp h with z | z
    · exact r.le.nw a z
    · rw [List.mem_singleton.mp z]; exact .inr (r.no0 hp)
  · rcases upd_get h with ⟨e, z⟩ | ⟨e, z⟩
    · rw [e]; exact .inr (.inl (r.no0 hp))
    · exact r.le.fz a x z
  · obtain ⟨x', h'⟩ := r.le.dm a x h
    exact ⟨x', up a x' h'⟩
  · show (w.G.ad ++ [p]).length = (w.s.st ++ [Ob.fun l cl]).length
    rw [List.length_append, List.length_append, r.st.len]; rfl
  · have h1 : (w.G.ad ++ [p])[n]? = some a := h1
    have h2 : (w.s.st ++ [Ob.fun l cl])[n]? = some x := h2
    by_cases hn : n < w.G.ad.length
    · rw [List.getElem?_append_left hn] at h1
      rw [List.getElem?_append_left (by rw [← r.st.len]; exact hn)] at h2
      exact (r.st.at_ n a x h1 h2).mono g (up a)
    · rw [List.getElem?_append_right (by omega)] at h1
      rw [List.getElem?_append_right (by rw [← r.st.len]; omega), ← r.st.len] at h2
      have e : n - w.G.ad.length = 0 := by
        have := (List.getElem?_eq_some_iff.mp h1).1
        simp at this; omega
      rw [e] at h1 h2
      simp at h1 h2
      subst h1 h2
      exact ⟨pm, c', ctv, upd_same, upd_same, g.f _ _ hc⟩
  · rcases List.mem_append.mp h with z | z
    · have e : upd w.G.F p (FnO p (lamO l cl pm c' ctv)) a = w.G.F a := upd_ne (fun e => na (e ▸ z))
      exact (r.st.nof a z).imp (fun y => e.trans y) fun ⟨φ, y⟩ => ⟨φ, e.trans y⟩
    · rw [List.mem_singleton.mp z]; exact .inr ⟨_, upd_same⟩
  · show (w.G.ad ++ [p]).Nodup
    rw [List.nodup_append]
    exact ⟨r.st.nd, by simp, fun a ha b hb e => by rw [List.mem_singleton.mp hb] at e; exact na (e ▸ ha)⟩
  · obtain ⟨v, h1, h2⟩ := r.sl.imm i d h
    exact ⟨v, h1, h2.mono g⟩
  · obtain ⟨a, vs, h1, h2, h3, h4, h5, h6⟩ := r.sl.own i ds h
    refine ⟨a, vs, h1, up a _ h2, h3.mono g, nF h2 h4, fun m => ?_, h6⟩
    rcases List.mem_append.mp m with z | z
    · exact h5 z
    · have z := List.mem_singleton.mp z
      rw [z, hp] at h2; cases h2
  · obtain ⟨a, oe, tl, cls, d, h1, h2, h3, h4⟩ := r.sl.xn i x h
    exact ⟨a, oe, tl, cls, d, h1, h2, h3, h4.mono g⟩
  · obtain ⟨p1, p2, p3, p4⟩ := r.pr q hq
    refine ⟨up _ _ p1, nF p1 p2, ⟨fun m => ?_, p3.2⟩, p4⟩
    rcases List.mem_append.mp m with z | z
    · exact p3.1 z
    · have z := List.mem_singleton.mp z
      have p1 : w.H q.1 = some q.2 := p1
      rw [z, hp] at p1; cases p1
end
def mLamF (l : Lam) (cl : List (Str × Addr)) : ME := fun s => .ok (.loc s.st.length) { s with st := s.st ++ [.fun l cl] }
section
variable {X : Cx} {W : WX} {c P : Addr} {params : Arguments} {body : Expr} {scope : Scope} {q : Str} {lpos : Pos}
theorem je_lamF (TB : TabB X.base X.mg c P) (hcode : X.env.code = .ref c) (hqq : X.env.qual ++ "<lambda>" = q) (hq : TabK X.K P (X.env.qual ++ "<lambda>")) (hu : ∀ q', TabK X.K P q' → q' = X.env.qual ++ "<lambda>") (L : LamS X.env.scope scope) (hdef : defaultsOf params X.env = ([], [])) :
    JE X W (.Lambda params body scope lpos) (mLamF ⟨q, params, body, scope⟩ X.env.cells) := by
  refine ⟨fun pins s σ H Q I h => ?_⟩
  obtain ⟨w, rfl, rfl, r, ok⟩ := h
  obtain ⟨_, fP, aP, ps, hP, tr, cs⟩ := r.tb P _ hq
  refine lam_make4 (C := fun c => w.G.F c = some (CodeO c (X.env.qual ++ "<lambda>"))) I TB hcode hP tr (fun pos cv h => (cs pos cv h).imp fun c e => ⟨e.1, e.2, r.ex _ _ e.2⟩) hdef (L.has I.ok) fun f c' pm ctv H1 s' I1 hf hco hcase => ?_
  obtain ⟨G1, g1, r1, hG⟩ : ∃ G1, w.G.le G1 ∧ Rel X.K X.pn { w with G := G1, H := H1 } ∧ G1.F c' = some (CodeO c' (X.env.qual ++ "<lambda>")) := by
    rcases hcase with ⟨e, z⟩ | ⟨hc, e⟩
    · rw [e]; exact ⟨w.G, .refl _, r, z⟩
    · rw [e]; exact ⟨_, gle_upd (r.noF hc), Rel.lam r hq hu hP hc, upd_same⟩
  subst hqq
  obtain ⟨g2, r2⟩ := Rel.newFn (l := ⟨X.env.qual ++ "<lambda>", params, body, scope⟩) (cl := X.env.cells) (pm := pm) (ctv := ctv) r1 hf hG
  refine ⟨.ref f, _, I1, rfl, ok _ _ _ (g1.trans g2) r2 (.loc ?_)⟩
  show (G1.ad ++ [f])[w.s.st.length]? = some f
  have e : G1.ad.length = w.s.st.length := r1.st.len
  rw [← e]; simp
end
end DL
namespace DL
open PySem PySem.Spec L2 LamX PyProof.Rows
def slotAt : List Str → List Slot → Str → Option D
  | n :: ns, x :: sl, y => if n = y then (match x with
    | .imm d => some d
    | _ => none) else slotAt ns sl y
  | _, _, _ => none
theorem slotAt_get : ∀ {ns : List Str} {sl : List Slot} {y : Str} {d : D}, slotAt ns sl y = some d → ∃ i : Nat, ns[i]? = some y ∧ sl[i]? = some (Slot.imm d)
  | [], _, _, _, h => by unfold slotAt at h; cases h
  | _ :: _, [], _, _, h => by unfold slotAt at h; cases h
  | n :: ns, x :: sl, y, d, h => by
    unfold slotAt at h
    split at h
    · rename_i e
      split at h
      · cases h
        exact ⟨0, by rw [e]; simp, by simp⟩
      · cases h
    · obtain ⟨i, h1, h2⟩ := slotAt_get h
      exact ⟨i + 1, by simpa using h1, by simpa using h2⟩
/-- what a lambda's names stand for: ns the def's names, cs those that have cells -/
def envOf (ns cs : List Str) (sl : List Slot) : List Str → Option (List (Str × D))
  | [] => some []
  | y :: ys => if y ∈ cs then (match slotAt ns sl y, envOf ns cs sl ys with
    | some d, some r => some ((y, d) :: r)
    | _, _ => none) else none
open Classical in
noncomputable def exitFun (cl : List (Str × Addr)) (ns cs : List Str) (sl : List Slot) (l : Lam) (cl' : List (Str × Addr)) : Option Ob :=
  if cl' = cl then (match envOf ns cs sl (frees l) with
    | some fs => some (.clo l fs)
    | none => none) else some (.fun l cl')
noncomputable def exitOb (cl : List (Str × Addr)) (ns cs : List Str) (sl : List Slot) : Ob → Option Ob
  | .fun l cl' => exitFun cl ns cs sl l cl'
  | o => some o
noncomputable def exitSt (cl : List (Str × Addr)) (ns cs : List Str) (sl : List Slot) : List Ob → Option (List Ob)
  | [] => some []
  | o :: st => match exitOb cl ns cs sl o, exitSt cl ns cs sl st with
    | some o', some st' => some (o' :: st')
    | _, _ => none
noncomputable def exitR (cl : List (Str × Addr)) (ns cs : List Str) : R D → RO
  | .ok d s => (match exitSt cl ns cs s.sl s.st with
    | some st' => .ok d st'
    | none => .stuck)
  | .exc x s => .exc x s.st
  | .stuck => .stuck
open Classical in
/-- the def: m its body, given the cells -/
noncomputable def fnClo (ns cs : List Str) (m : List (Str × Addr) → ME) : Fn := fun ds st =>
  if ∀ cl, exitR cl ns cs (m cl ⟨slots ns.length ds, st⟩) = exitR [] ns cs (m [] ⟨slots ns.length ds, st⟩) then exitR [] ns cs (m [] ⟨slots ns.length ds, st⟩) else .stuck
theorem exitSt_len {cl : List (Str × Addr)} {ns cs : List Str} {sl : List Slot} : ∀ {st st' : List Ob}, exitSt cl ns cs sl st = some st' → st'.length = st.length
  | [], _, h => by unfold exitSt at h; cases h; rfl
  | o :: st, _, h => by
    unfold exitSt at h
    split at h
    · rename_i a b e1 e2
      cases h
      exact congrArg Nat.succ (exitSt_len e2)
    · cases h
theorem exitSt_get {cl : List (Str × Addr)} {ns cs : List Str} {sl : List Slot} : ∀ {st st' : List Ob} {n : Nat} {o' : Ob}, exitSt cl ns cs sl st = some st' → st'[n]? = some o' → ∃ o, st[n]? = some o ∧ exitOb cl ns cs sl o = some o'
  | [], _, n, o', h, e => by unfold exitSt at h; cases h; simp at e
  | o :: st, _, n, o', h, e => by
    unfold exitSt at h
    split at h
    · rename_i a b e1 e2
      cases h
      cases n with
      | zero => simp at e; subst e; exact ⟨o, rfl, e1⟩
      | succ n =>
        obtain ⟨o2, h1, h2⟩ := exitSt_get (n := n) e2 (by simpa using e)
        exact ⟨o2, by simpa using h1, h2⟩
    · cases h
/-- the cells whose slots are told -/
def exitC (X : Cx) (cs : List Str) (sl : List Slot) : Addr → Prop := fun b => ∃ (i : Nat) (y : Str) (d : D), y ∈ cs ∧ X.N[i]? = some y ∧ X.env.cells.lookup y = some b ∧ sl[i]? = some (Slot.imm d)
open Classical in
/-- the heap with the cells told -/
noncomputable def exitH (h : Heap) (C : Addr → Prop) (H : Hp) : Hp := fun b => if C b then (match h.get? b with
  | some o => some (FnO b o)
  | none => none) else H b
theorem exitH_out {h : Heap} {C : Addr → Prop} {H : Hp} {b : Addr} (n : ¬ C b) : exitH h C H b = H b := if_neg n
theorem exitH_in {h : Heap} {C : Addr → Prop} {H : Hp} {b : Addr} {o : Obj} (c : C b) (e : h.get? b = some o) : exitH h C H b = some (FnO b o) := by
  unfold exitH
  rw [if_pos c, e]
section
variable {X : Cx} {w : Wd} {s : Shared} {cs : List Str}
theorem exitC_val (r : Rel X.K X.pn w) {b : Addr} (c : exitC X cs w.s.sl b) : ∃ (i : Nat) (y : Str) (d : D) (v : V), y ∈ cs ∧ X.N[i]? = some y ∧ X.env.cells.lookup y = some b ∧ w.s.sl[i]? = some (Slot.imm d) ∧ w.σ[i]? = some (some v) ∧ Rep X.K w.G v d := by
  obtain ⟨i, y, d, h1, h2, h3, h4⟩ := c
  obtain ⟨v, h5, h6⟩ := r.sl.imm i d h4
  exact ⟨i, y, d, v, h1, h2, h3, h4, h5, h6⟩
/-- behind the def: its cells stay -/
theorem exit_rel {pins : List (Addr × Obj)} (I : Inv X pins w.σ w.H s) (r : Rel X.K X.pn w) (hN : X.N.Nodup) (hcs : ∀ y ∈ cs, X.env.scope.names.lookup y = some .cell) (hfn : ∀ y, X.fn y = true) (hex : X.ex = []) {st' : List Ob} (hst : exitSt X.env.cells X.N cs w.s.sl w.s.st = some st') :
    w.G.le ⟨exitH s.heap (exitC X cs w.s.sl) w.G.F, w.G.ad⟩ ∧ Le w.G0 w.H0 ⟨exitH s.heap (exitC X cs w.s.sl) w.G.F, w.G.ad⟩ (exitH s.heap (exitC X cs w.s.sl) w.H) ∧ At X.K ⟨exitH s.heap (exitC X cs w.s.sl) w.G.F, w.G.ad⟩ (exitH s.heap (exitC X cs w.s.sl) w.H) st' ∧ Un X.fs [] X.H_0 (exitH s.heap (exitC X cs w.s.sl) w.H) X.s_0.heap s.heap ∧ HOk X.prog X.w (exitH s.heap (exitC X cs w.s.sl) w.H) s.heap := by
  have hcH : ∀ {b}, exitC X cs w.s.sl b → w.H b = none := fun {b} ⟨i, y, d, _, _, h3, _⟩ => I.freeC y b h3
  have hcF : ∀ {b}, exitC X cs w.s.sl b → w.G.F b = none := fun {b} c => r.noF (hcH c)
  have hv : ∀ {i : Nat} {y : Str} {d : D} {v : V} {b : Addr}, y ∈ cs → X.N[i]? = some y → X.env.cells.lookup y = some b → w.s.sl[i]? = some (Slot.imm d) → w.σ[i]? = some (some v) → ∃ o u, s.heap.get? b = some o ∧ o.data = .cell (some u) ∧ RelV v u := fun {i y d v b} h1 h2 h3 h4 h5 => by
    obtain ⟨m, hn, hl⟩ := I.loc
    obtain ⟨u, ru, lk⟩ := hl i y v h2 h5 (.inr (.inl (hcs y h1)))
    rcases lk with ⟨k, _⟩ | ⟨_, c2, e, z⟩
    · have k : X.env.scope.names.lookup y = some .local := k
      rw [hcs y h1] at k; cases k
    · rw [h3] at e; cases e
      obtain ⟨o, z1, z2⟩ := z
      exact ⟨o, u, z1, z2, ru⟩
  have hv0 : ∀ {b}, exitC X cs w.s.sl b → ∃ o, s.heap.get? b = some o := fun {b} c => by
    obtain ⟨i, y, d, v, h1, h2, h3, h4, h5, h6⟩ := exitC_val r c
    obtain ⟨o, u, z, _⟩ := hv h1 h2 h3 h4 h5
    exact ⟨o, z⟩
  have up : ∀ {H0 : Hp} {a o}, (∀ b, exitC X cs w.s.sl b → H0 b = none) → H0 a = some o → exitH s.heap (exitC X cs w.s.sl) H0 a = some o := fun {H0 a o} n e => by
    rw [exitH_out (fun c => by rw [n a c] at e; cases e)]; exact e
  have upH : ∀ {a o}, w.H a = some o → exitH s.heap (exitC X cs w.s.sl) w.H a = some o := fun e => up (fun b c => hcH c) e
  have upF : ∀ {a o}, w.G.F a = some o → exitH s.heap (exitC X cs w.s.sl) w.G.F a = some o := fun e => up (fun b c => hcF c) e
  have g : w.G.le { F := exitH s.heap (exitC X cs w.s.sl) w.G.F, ad := w.G.ad } := ⟨fun a o e => upF e, fun n a e => e⟩
  have nc0 : ∀ {b}, exitC X cs w.s.sl b → w.H0 b = none := fun {b} c => r.no0 (hcH c)
  have back : ∀ {a o} {H0 : Hp}, exitH s.heap (exitC X cs w.s.sl) H0 a = some o → exitC X cs w.s.sl a ∨ H0 a = some o := fun {a o H0} e => by
    by_cases c : exitC X cs w.s.sl a
    · exact .inl c
    · rw [exitH_out c] at e; exact .inr e
  refine ⟨g, ⟨r.le.g.trans g, r.le.nw, fun a o e => ?_, fun a o e n t => upH (r.le.kp a o e n t), fun a o e => ?_, fun a ps e => ?_⟩, ⟨fun a o e => ?_, ⟨?_, fun n a o h1 h2 => ?_, fun a m => ?_, r.st.nd⟩, fun P q hP => ?_⟩, ?_, fun b o e => ?_⟩
  · rcases back e with c | e
    · exact .inr (.inl (nc0 c))
    · exact r.le.fz a o e
  · obtain ⟨o', z⟩ := r.le.dm a o e
    exact ⟨o', upH z⟩
  · obtain ⟨qs, z⟩ := r.le.tt a ps e
    exact ⟨qs, upH z⟩
  · rcases back e with c | e
    · obtain ⟨o2, z⟩ := hv0 c
      have e : exitH s.heap (exitC X cs w.s.sl) w.G.F a = some o := e
      rw [exitH_in c z] at e
      rw [exitH_in c z]; exact e
    · exact upH (r.ex a o e)
  · rw [exitSt_len hst]; exact r.st.len
  · obtain ⟨o', h3, h4⟩ := exitSt_get hst h2
    have h1 : w.G.ad[n]? = some a := h1
    have ob := r.st.at_ n a o' h1 h3
    cases o' with
    | «fun» l cl' =>
      replace h4 : exitFun X.env.cells X.N cs w.s.sl l cl' = some o := h4
      unfold exitFun at h4
      split at h4
      · rename_i e
        subst e
        split at h4
        · rename_i fs he
          cases h4
          have key : ∀ (ys : List Str) (fs : List (Str × D)), envOf X.N cs w.s.sl ys = some fs → ∃ cvs : List (Str × V), (∀ p ∈ cvs, ∃ c o u, X.env.cells.lookup p.1 = some c ∧ exitH s.heap (exitC X cs w.s.sl) w.G.F c = some (FnO c o) ∧ o.data = .cell (some u) ∧ RelV p.2 u) ∧ RepF X.K { F := exitH s.heap (exitC X cs w.s.sl) w.G.F, ad := w.G.ad } cvs fs ∧ fs.map (·.1) = ys := by
            intro ys
            induction ys with
            | nil =>
              intro fs h
              unfold envOf at h
              cases h
              exact ⟨[], (fun p hp => by cases hp), .nil, rfl⟩
            | cons y ys ih =>
              intro fs h
              unfold envOf at h
              split at h
              · rename_i hy
                split at h
                · rename_i d rr e1 e2
                  cases h
                  obtain ⟨cvs, q1, q2, q3⟩ := ih rr e2
                  obtain ⟨i, z1, z2⟩ := slotAt_get e1
                  obtain ⟨v, z3, z4⟩ := r.sl.imm i d z2
                  obtain ⟨c, z5⟩ := I.ok.has y (.inl (hcs y hy))
                  refine ⟨(y, v) :: cvs, fun p hp => ?_, .cons (z4.mono g) q2, by rw [List.map_cons, q3]⟩
                  rcases List.mem_cons.mp hp with e | hp
                  · subst e
                    obtain ⟨o, u, y1, y2, y3⟩ := hv hy z1 z5 z2 z3
                    exact ⟨c, o, u, z5, exitH_in ⟨i, y, d, hy, z1, z5, z2⟩ y1, y2, y3⟩
                  · exact q1 p hp
                · cases h
              · cases h
          obtain ⟨cvs, q1, q2, q3⟩ := key _ _ he
          exact ⟨X.env.cells, cvs, LamAt.mono g (fun u hu => upH hu) ob, ⟨I.ok.inj, q1⟩, q2, q3⟩
        · cases h4
      · cases h4
        exact ob.mono g fun u hu => upH hu
    | dct kvs => cases h4; exact ob.mono g fun u hu => upH hu
    | dtt kvs => cases h4; exact ob.mono g fun u hu => upH hu
    | ins c fs => cases h4; exact ob.mono g fun u hu => upH hu
    | lst ds => cases h4; exact ob.mono g fun u hu => upH hu
    | clo l fs => cases h4; exact ob.mono g fun u hu => upH hu
    | hid => cases h4; exact ob.mono g fun u hu => upH hu
  · have m : a ∈ w.G.ad := m
    have nc : ¬ exitC X cs w.s.sl a := fun c => by
      obtain ⟨u, z⟩ := r.st.there m
      rw [hcH c] at z; cases z
    show exitH s.heap (exitC X cs w.s.sl) w.G.F a = none ∨ ∃ φ, exitH s.heap (exitC X cs w.s.sl) w.G.F a = some (.ext φ)
    rw [exitH_out nc]
    exact r.st.nof a m
  · obtain ⟨_, f, a, ps, e, tr, cs2⟩ := r.tb P q hP
    have nc : ¬ exitC X cs w.s.sl P := fun c => by rw [hcH c] at e; cases e
    exact ⟨⟨ps, upH e⟩, (show exitH s.heap (exitC X cs w.s.sl) w.G.F P = none by rw [exitH_out nc]; exact f), a, ps, upH e, tr, fun pos cv h => (cs2 pos cv h).imp fun c z => ⟨z.1, upF z.2⟩⟩
  · have B := I.base
    have noex : ∀ b : Addr, b ∉ X.ex := fun b z => by rw [hex] at z; cases z
    have old : ∀ {b o}, X.s_0.heap.get? b = some o → ¬ exitC X cs w.s.sl b := fun {b o} e ⟨i, y, d, _, _, h3, _⟩ => Nat.lt_irrefl _ (Nat.lt_of_lt_of_le (Heap.lt_size e) (I.ok.cab y b (hfn y) h3))
    exact ⟨fun b o e n hb _ => B.keep b o e n hb (noex b), fun b o e n hb _ => B.slot b o e n hb (noex b), fun b o e n _ => by rw [exitH_out (old e)]; exact B.free b o e n (noex b), fun b o e _ => B.there b o e (noex b), fun b xs e => upH (B.tups b xs e), fun b o xs e => upH (B.frzs b o xs e), fun b ps e => by
      obtain ⟨more, z⟩ := B.tbls b ps e
      exact ⟨more, upH z⟩⟩
  · rcases back e with c | e2
    · obtain ⟨o2, z⟩ := hv0 c
      rw [exitH_in c z] at e
      cases e
      exact ⟨z, ⟨_, z⟩, fun h1 h2 p k => k _ p⟩
    · refine (I.hok b o e2).stay (fun _ _ _ q => q) (fun x q => upH q) fun x xs q => upH q
end
end DL
namespace DL
open PySem PySem.Spec L2 LamX PyProof.Rows
theorem fn_ofC {CX : CXT} {P : Program} {w : World} {K : PySem.W.Frag} {mg : Str → Option Value} {base : Heap} {k : Nat} {f : Addr} {name qual : Str} {params : Arguments} {body : List Stmt} {scope : Scope} {dV kV doc pm cdv ct oc : Value} {an od : Option Addr}
    {osl : Array (Option Value)} {N ps : List Str} {sp : Sp} (lk : K.lookup f = some ⟨oc, od, .func (PySem.W.fnOf name qual params body scope dV kV doc pm an cdv ct), osl⟩) (hcd : PySem.W.codeIn K cdv qual = true) (S : FnScope N ps scope)
    (len : ∀ vs H Q E, sp vs H Q E → vs.length = ps.length)
    (hbody : ∀ (A : Around) (outer : List Env) (s : Shared) (H : Hp) (vs : List V) (Q : VK) (E : XK), Room k (A.deeper (envOfC qual scope s.heap.objs.size f cdv)) → sp vs H Q E →
      ∀ s1, Inv (cxOf CX P w K mg base N qual scope f cdv A outer s H E) [] (start N vs) H s1 → wpAny (model P w) (cxOf CX P w K mg base N qual scope f cdv A outer s H E).A (execs body (cxOf CX P w K mg base N qual scope f cdv A outer s H E).env) (fun fl s' => ∃ u, fl = .ret u ∧ CE outer P w H s Q u s') (cxOf CX P w K mg base N qual scope f cdv A outer s H E).xe s1) :
    FnOk P w K mg base CX (k + 1) f (PySem.W.fnOf name qual params body scope dV kV doc pm an cdv ct) ps sp := by
  refine ⟨len, fun A outer s H args us vs Q E hr e0 hb r hsp => ?_⟩
  have hl := len _ _ _ _ hsp
  have KX : K.In s.heap := e0.mod.kin.keeps fun b o e => (e0.bs b o e).1
  have lim : s.heap.NoLimit := e0.mod.nolimit.keeps fun b o e => (e0.bs b o e).1
  have hkind : ∀ y ∈ ps.zip us, scope.names.lookup y.1 = some .local ∨ (scope.names.lookup y.1 = some .cell ∧ ((cellsFrom (s.heap.objs.size + 1) scope.names []).lookup y.1).isSome = true) := fun ⟨n, v⟩ hy => by
    rcases S.par n (List.of_mem_zip hy).1 with q | q
    · exact .inl q
    · exact .inr ⟨q, PySem.W.cellsFrom_some _ _ _ (.inl q)⟩
  refine codeAny_call_function hr.depth (KX _ _ lk) rfl S.co S.gen rfl (PySem.W.codeRec_of KX hcd) (hb _ _ _ _ ?_)
  refine wpAny_newFunctionEnv_cells S.kind hkind fun env he s1 x => ?_
  subst he
  refine ⟨lim.keeps x.toInCall.keep, codeAny_func ?_⟩
  have I : Inv (cxOf CX P w K mg base N qual scope f cdv A outer s H E) [] (start N vs) H s1 := inv_start S hr.hd e0 hl r x
  refine wpAny_mono (hbody A outer s H vs Q E (hr.deeper _) hsp s1 I) (fun fl s' hs => ?_) fun e s' hs => hs
  obtain ⟨u, e, c⟩ := hs
  subst e
  exact c
/-- a body that ends with return e, and what is true at its end -/
def JC (X : Cx) (W : WX) (body : List Stmt) (m : ME) : Prop := ∀ (pins : List (Addr × Obj)) (s : Shared) (w : Wd), Inv X pins w.σ w.H s → Rel X.K X.pn w → m w.s ≠ .stuck →
  (∀ x s1, m w.s = .exc x s1 → ∀ G' σ' c d H', w.G.le G' → Rel X.K X.pn { w with G := G', σ := σ', H := H', s := s1 } → XRep X.K G' c d x → W c d σ' H') →
  wpAny (model X.prog X.w) X.A (execs body X.env) (fun fl s' => ∃ u v d w', fl = .ret u ∧ RelV v u ∧ m w.s = .ok d w'.s ∧ w'.G0 = w.G0 ∧ w'.H0 = w.H0 ∧ w.G.le w'.G ∧ Inv X pins w'.σ w'.H s' ∧ Rel X.K X.pn w' ∧ Rep X.K w'.G v d) X.xe s
def mBodyC (ms : MS) (m : ME) : ME := fun s => match ms s with
  | .ok .nx s' => m s'
  | .exc x s' => .exc x s'
  | _ => .stuck
section
variable {X : Cx} {W : WX} {e : Expr} {m : ME} {ms : MS} {st : Stmt} {rest : List Stmt} {pos : Pos}
theorem jc_ret (h : JE X W e m) : JC X W [.Return (some e) pos] m := by
  intro pins s w I r hn hx
  refine wpAny_execs_cons (wpAny_Return_some (thn (h.run pins s w.σ w.H (fun v H' => ∃ d s' G', m w.s = .ok d s' ∧ w.G.le G' ∧ Rel X.K X.pn { w with G := G', H := H', s := s' } ∧ Rep X.K G' v d) I ⟨w, rfl, rfl, r, ?_⟩) fun u s1 ⟨v, H', I1, rv, d, s', G', e1, g, r1, p⟩ => ?_))
  · cases hm : m w.s with
    | ok d s' => exact fun G' v H' g r' p => ⟨d, s', G', rfl, g, r', p⟩
    | exc x s' => exact fun G' c d H' g r' p => hx x s' hm G' w.σ c d H' g r' p
    | stuck => exact absurd hm hn
  · exact ⟨u, v, d, { w with G := G', H := H', s := s' }, rfl, rv, e1, rfl, rfl, g, I1, r1, p⟩
theorem jc_cons (h : JS X W st ms) (h2 : JC X W rest m) : JC X W (st :: rest) (mBodyC ms m) := by
  intro pins s w I r hn hx
  unfold mBodyC at hn hx
  refine wpAny_execs_cons (thn (h.run pins s w.σ w.H { nx := fun σ' H' => ∃ s' G', ms w.s = .ok .nx s' ∧ w.G.le G' ∧ Rel X.K X.pn { w with G := G', σ := σ', H := H', s := s' }, rt := fun _ _ => False } I ⟨w, rfl, rfl, r, ?_⟩) fun f s1 q => ?_)
  · cases hm : ms w.s with
    | ok fl s' =>
      rw [hm] at hn
      cases fl with
      | nx => exact fun G' σ' H' g r' => ⟨s', G', rfl, g, r'⟩
      | bk => exact absurd rfl hn
      | ct => exact absurd rfl hn
      | rt d => exact absurd rfl hn
    | exc x s' =>
      rw [hm] at hx
      exact fun G' σ' c d H' g r' p => hx x s' rfl G' σ' c d H' g r' p
    | stuck => rw [hm] at hn; exact absurd rfl hn
  · cases f with
    | next =>
      obtain ⟨σ', H', I', s', G', e1, g, r'⟩ := q
      rw [e1] at hn hx
      refine thn (h2 pins s1 { w with G := G', σ := σ', H := H', s := s' } I' r' hn fun x s2 e2 G2 σ2 c d H2 g2 r2 p => hx x s2 e2 G2 σ2 c d H2 (g.trans g2) r2 p) fun fl s2 ⟨u, v, d, w', a1, a2, a3, a4, a5, a6, a7, a8, a9⟩ => ⟨u, v, d, w', a1, a2, ?_, a4, a5, g.trans a6, a7, a8, a9⟩
      unfold mBodyC
      rw [e1]; exact a3
    | brk => obtain ⟨_, _, _, z⟩ := q; exact z.elim
    | cont => obtain ⟨_, _, _, z⟩ := q; exact z.elim
    | ret v => obtain ⟨_, _, _, _, _, z⟩ := q; exact z.elim
end
def csB (sc : Scope) (cs : List Str) : Bool := cs.all fun y => decide (sc.names.lookup y = some .cell)
section
variable {P : Program} {w : World} {K : PySem.W.Frag} {mg : Str → Option Value} {base : Heap} {x : Str} {st : Stmt}
/-- kn_ok for a def that gives its lambdas away -/
theorem kn_okClo {N ps cs : List Str} {k : Nat} {m : List (Str × Addr) → ME} (F : FnW K x st) (hm : mg x = some (.ref (He.ga K x))) (Lk : LamOk K mg base x) (Sc : FnScope N ps (defScope st)) (hcs : csB (defScope st) cs = true)
    (hbn : ∀ (kV doc pm : Value) (an : Option Addr) (cdv ct : Value) (us : List Value), us.length = ps.length → bindArgs (PySem.W.fnOf x x (defArgs st) (defBody st) (defScope st) .none kV doc pm an cdv ct) ⟨us, []⟩ = pure (ps.zip us))
    (hb : ∀ (c Pt : Addr), TabB base mg c Pt → TabK K Pt (x ++ ".<locals>." ++ "<lambda>") → (∀ q', TabK K Pt q' → q' = x ++ ".<locals>." ++ "<lambda>") → ∀ (A : Around) (outer : List Env) (s : Shared) (H : Hp) (E : XK), Room k (A.deeper (PyProof.Rows.envOfC x (defScope st) s.heap.objs.size (He.ga K x) (.ref c))) →
      L2N.Takes (cxOf (L2N.CX P w) P w K mg base N x (defScope st) (He.ga K x) (.ref c) A outer s H E) (fun c d _ H => E c d H) → PassesOwn (model P w) (A.deeper (PyProof.Rows.envOfC x (defScope st) s.heap.objs.size (He.ga K x) (.ref c))) (PyProof.Rows.envOfC x (defScope st) s.heap.objs.size (He.ga K x) (.ref c)) (cxOf (L2N.CX P w) P w K mg base N x (defScope st) (He.ga K x) (.ref c) A outer s H E).xe →
      (A.deeper (PyProof.Rows.envOfC x (defScope st) s.heap.objs.size (He.ga K x) (.ref c))).units + 64 < cLine → (A.deeper (PyProof.Rows.envOfC x (defScope st) s.heap.objs.size (He.ga K x) (.ref c))).units + 1 < cLine →
      JC (cxOf (L2N.CX P w) P w K mg base N x (defScope st) (He.ga K x) (.ref c) A outer s H E) (fun c d _ H => E c d H) (defBody st) (m (cxOf (L2N.CX P w) P w K mg base N x (defScope st) (He.ga K x) (.ref c) A outer s H E).env.cells)) :
    Kn P w K mg base x (k + 1) ps (fnClo N cs m) := by
  obtain ⟨fd, F⟩ := F
  obtain ⟨c, Pt, hl, TB, nP, hu⟩ := Lk
  have hq := LamOk.tab hl nP
  obtain ⟨oc, od, fd', osl, _, _, _, _, e1, e2, _⟩ := lamAt_ok hl
  have look := FunD.look F
  have hbs := F.bindsN hbn
  have kp := F.kp
  obtain ⟨oc2, od2, dV, kV, doc, pm, an, cdv, ct, osl2, rfl, lk, hcg, _⟩ := F.ex
  rw [e1] at lk
  have ec : cdv = .ref c := by
    have z : Data.func fd' = Data.func (PySem.W.fnOf x x (defArgs st) (defBody st) (defScope st) dV kV doc pm an cdv ct) := congrArg Obj.data (Option.some.inj lk)
    have z2 := Data.func.inj z
    rw [z2] at e2
    exact e2
  subst ec
  rw [← e1.symm.trans e1] at lk
  refine ⟨He.ga K x, _, ?_, hm, kp, hbs, look⟩
  refine fn_ofC (by rw [e1]; exact lk) hcg Sc (fun vs H Q E h => ?_) fun A outer s H vs Q E hr h s1 I => ?_
  · obtain ⟨G, ds, st, hl, _⟩ := h
    exact hl
  · obtain ⟨G, ds, st0, hl, a, r, h⟩ := h
    have J := hb c Pt TB hq hu A outer s H E hr (L2N.takes_of rfl rfl rfl rfl) (passes_of (X := cxOf (L2N.CX P w) P w K mg base N x (defScope st) (He.ga K x) (.ref c) A outer s H E) rfl) (by have := hr.un; omega) (by have := hr.un; omega)
    unfold fnClo at h
    by_cases hc : ∀ cl, exitR cl N cs (m cl ⟨slots N.length ds, st0⟩) = exitR [] N cs (m [] ⟨slots N.length ds, st0⟩)
    · rw [if_pos hc, ← hc (cxOf (L2N.CX P w) P w K mg base N x (defScope st) (He.ga K x) (.ref c) A outer s H E).env.cells] at h
      refine thn (J [] s1 ⟨G, H, G, L2.start N vs, H, ⟨slots N.length ds, st0⟩, []⟩ I (rel_start a r) (fun z => ?_) fun y s2 e3 G' σ' c2 d H' g r' p => ?_) fun fl s' ⟨u, v, d, w', b1, b2, b3, b4, b5, b6, b7, b8, b9⟩ => ⟨u, b1, ?_⟩
      · rw [show m _ ⟨slots N.length ds, st0⟩ = .stuck from z] at h
        exact h
      · rw [show m _ ⟨slots N.length ds, st0⟩ = .exc y s2 from e3] at h
        exact h G' c2 d H' r'.le ⟨r'.ex, r'.st, r'.tb.here⟩ p
      · rw [show m _ ⟨slots N.length ds, st0⟩ = .ok d w'.s from b3] at h
        unfold exitR at h
        dsimp only at h
        cases hs : exitSt (cxOf (L2N.CX P w) P w K mg base N x (defScope st) (He.ga K x) (.ref c) A outer s H E).env.cells N cs w'.s.sl w'.s.st with
        | none => rw [hs] at h; exact h.elim
        | some st' =>
          rw [hs] at h
          obtain ⟨g2, l2, a2, un2, hok2⟩ := exit_rel (X := cxOf (L2N.CX P w) P w K mg base N x (defScope st) (He.ga K x) (.ref c) A outer s H E) (cs := cs) b7 b8 Sc.nd (fun y hy => of_decide_eq_true (List.all_eq_true.mp hcs y hy)) (fun _ => rfl) rfl hs
          rw [b4, b5] at l2
          exact ⟨v, _, b7.os, b7.bare, un2, hok2, b2, h _ v _ l2 a2 (b9.mono g2)⟩
    · rw [if_neg hc] at h; exact h.elim
end
end DL
namespace DL
open PySem PySem.Spec L2 LamX PyProof.Rows
end DL
namespace HKT
open PySem PySem.Spec PySem.W L2 DL He HK HKN LamX
/-- each def's table that K tells -/
def tabOf (K : Frag) (o : Obj) : Option (Addr × Str) := match o.data with
  | .func fd => (match fd.code with
    | .ref c => (match K.lookup c with
      | some ⟨_, _, .fields vs, _⟩ => (match vs[11]? with
        | some (Value.ref P) => some (P, fd.qualname)
        | _ => none)
      | _ => none)
    | _ => none)
  | _ => none
theorem tabOf_ok {K : Frag} {P : Addr} {q : Str} (h : TabK K P q) : ∃ a o y, (a, o) ∈ K ∧ tabOf K o = some (P, y) ∧ q = y ++ ".<locals>." ++ "<lambda>" ∧ K.lookup P = none := by
  obtain ⟨f, c, oc, od, fd, osl, cc, cd, vs, csl, h1, h2, h3, h4, h5, h6⟩ := h
  refine ⟨f, _, fd.qualname, mem_lookA h1, ?_, h6, h5⟩
  unfold tabOf
  dsimp only
  rw [h2]
  dsimp only
  rw [h3]
  dsimp only
  rw [h4]
def tabs (K : Frag) (lam : List Str) : List (Addr × Addr) := lam.filterMap (lamAt K)
def codeHdB (K : Frag) (c P : Addr) : Bool := match K.lookup c with
  | some ⟨.type n, _, .fields vs, _⟩ => (n == "code") && (decide (vs[11]? = some (.ref P)) && (decide (c ≠ P) && ((match vs.getD 18 .none with | .str _ _ => true | _ => false) && ((match vs.getD 7 .none with | .int _ _ => true | _ => false) && ((match vs.getD 9 .none with | .bool _ => true | _ => false) && (match vs.getD 10 .none with | .int _ _ => true | _ => false))))))
  | _ => false
theorem codeHdB_ok {K : Frag} {c P : Addr} {h : Heap} (X : K.In h) (e : codeHdB K c P = true) : CodeHd h c P := by
  unfold codeHdB at e
  split at e
  · rename_i n cd vs csl e0
    obtain ⟨e1, e⟩ := ba e
    obtain ⟨e2, e⟩ := ba e
    obtain ⟨e3, e⟩ := ba e
    obtain ⟨e4, e⟩ := ba e
    obtain ⟨e5, e⟩ := ba e
    obtain ⟨e6, e7⟩ := ba e
    have h11 := of_decide_eq_true e2
    have n1 : n = "code" := by simpa using e1
    subst n1
    split at e4
    · rename_i file tf q18
      split at e5
      · rename_i flags tg q7
        split at e6
        · rename_i inF q9
          split at e7
          · rename_i text tt q10
            exact ⟨_, vs, file, tf, flags, tg, inF, text, tt, X _ _ e0, rfl, rfl, h11, by simp [Array.getD_eq_getD_getElem?, h11], q18, q7, q9, q10, of_decide_eq_true e3⟩
          · cases e7
        · cases e6
      · cases e5
    · cases e4
  · cases e
/-- the lambda defs' tables are not in K, all others are -/
def lamsB (lam : List Str) (K : Frag) : Bool := (lam.all fun x => match lamAt K x with
    | some (c, P) => (K.lookup P).isNone && (codeHdB K c P && K.all fun p => match tabOf K p.2 with
      | some (P', y) => !(P' == P) || (y == x)
      | none => true)
    | none => false) && K.all fun p => match tabOf K p.2 with
      | some (P', _) => (K.lookup P').isSome || ((tabs K lam).map (·.2)).contains P'
      | none => true
def emptyT : Option Obj → Bool
  | some ⟨.none, none, .fields vs, sl⟩ => vs.isEmpty && sl.isEmpty
  | _ => false
theorem emptyT_ok {o : Option Obj} (h : emptyT o = true) : o = some { cls := .none, data := .fields #[] } := by
  unfold emptyT at h
  split at h
  · rename_i vs sl
    obtain ⟨h1, h2⟩ := ba h
    have e1 : vs = #[] := by simpa using h1
    have e2 : sl = #[] := by simpa using h2
    subst e1 e2
    rfl
  · cases h
abbrev AlT : Type := (AlN × (Bool × List FnW)) × Bool
def obsT (file : Str) (fa : List Fa) (fb : List (Frag → Bool)) (fn : List DefD) (xs : List ND) (fw : List He5.DefA) (lam : List Str) (K : Frag) : AlN × (Bool × List FnW) := (obsN file fa (lamsB lam :: fb) fn xs K, (fw.all fun d => d.ok K, fw.map fun d => He5.fnA K (d.at_ K)))
def valT (fn : List DefD) (xs : List ND) (fw : List He5.DefA) : AlN × (Bool × List FnW) := (valN fn xs, (true, fw.map He5.DefA.val))
def SaysT (file : Str) (fa : List Fa) (fb : List (Frag → Bool)) (fn : List DefD) (xs : List ND) (fw : List He5.DefA) (lam : List Str) (K : Frag) : Prop := obsT file fa fb fn xs fw lam K = valT fn xs fw
/-- K: what is reached in n steps, without the lambda defs' tables -/
def kOf (n : Nat) (lam : List Str) (g : Addr → Option Obj) : Frag :=
  let as := cStatics :: asD g n
  let ts := (tabs (frG g as) lam).map (·.2)
  frG g (as.filter fun a => !ts.contains a)
def obsTG (n : Nat) (file : Str) (fa : List Fa) (fb : List (Frag → Bool)) (fn : List DefD) (xs : List ND) (fw : List He5.DefA) (lam : List Str) (g : Addr → Option Obj) : (AlN × (Bool × List FnW)) × Bool :=
  let K := kOf n lam g
  (obsT file fa fb fn xs fw lam K, (tabs K lam).all fun p => emptyT (g p.2))
def hookT (n : Nat) (file : Str) (fa : List Fa) (fb : List (Frag → Bool)) (fn : List DefD) (xs : List ND) (fw : List He5.DefA) (lam : List Str) : Hook where
  α := (AlN × (Bool × List FnW)) × Bool
  obs := fun s => obsTG n file fa fb fn xs fw lam s.heap.get?
  val := fun _ => (valT fn xs fw, true)
  says := fun _ h => ∃ K : Frag, K.In h ∧ SaysT file fa fb fn xs fw lam K ∧ ∀ p ∈ tabs K lam, h.get? p.2 = some { cls := .none, data := .fields #[] }
  of := fun _ s e => ⟨kOf n lam s.heap.get?, frG_in, congrArg (fun z : (AlN × (Bool × List FnW)) × Bool => z.1) e, fun p hp => emptyT_ok (List.all_eq_true.mp (congrArg (fun z : (AlN × (Bool × List FnW)) × Bool => z.2) e) p hp)⟩
  keeps := fun _ _ _ ⟨K, hK, c, t⟩ k => ⟨K, Frag.In.keeps hK k, c, fun p hp => k _ _ (t p hp)⟩
theorem obsTG_eq {n : Nat} {file : Str} {fa : List Fa} {fb : List (Frag → Bool)} {fn : List DefD} {xs : List ND} {fw : List He5.DefA} {lam : List Str} {g : Addr → Option Obj} {s : Shared} (h : ∀ a, g a = s.heap.get? a) : obsTG n file fa fb fn xs fw lam g = (hookT n file fa fb fn xs fw lam).obs s := by
  have e : g = s.heap.get? := funext h
  rw [e] <;> rfl
section
variable {file : Str} {fa : List Fa} {fb : List (Frag → Bool)} {fn : List DefD} {xs : List ND} {fw : List He5.DefA} {lam : List Str} {K : Frag}
theorem SaysT.x (c : SaysT file fa fb fn xs fw lam K) : SaysN file fa (lamsB lam :: fb) fn xs K := congrArg (fun z : AlN × (Bool × List FnW) => z.1) c
theorem SaysT.wrapped (c : SaysT file fa fb fn xs fw lam K) (i : Nat) {d : He5.DefA} (h : fw[i]? = some d := by rfl) : ∃ fd, FunD K d.name d.qual d.params d.body d.scope (d.dvs K) (d.kws K) (d.at_ K) fd := by
  have c2 : (fw.all fun d => d.ok K) = true := congrArg (fun z : AlN × (Bool × List FnW) => z.2.1) c
  have e : fw.map (fun d => He5.fnA K (d.at_ K)) = fw.map He5.DefA.val := congrArg (fun z : AlN × (Bool × List FnW) => z.2.2) c
  have e2 : (fw.map fun d => He5.fnA K (d.at_ K))[i]? = (fw.map He5.DefA.val)[i]? := by rw [e]
  rw [List.getElem?_map, List.getElem?_map, h] at e2
  exact He5.DefA.funD (Option.some.inj e2) (List.all_eq_true.mp c2 d (List.mem_of_getElem? h))
theorem SaysT.lams (c : SaysT file fa fb fn xs fw lam K) : lamsB lam K = true := SaysN.fx c.x 0 (f := lamsB lam) rfl
end
section
variable {lam : List Str} {K : Frag} {h : Heap}
theorem lams_at (e : lamsB lam K = true) {x : Str} (hx : x ∈ lam) : ∃ c P, lamAt K x = some (c, P) ∧ K.lookup P = none ∧ codeHdB K c P = true ∧ ∀ q', TabK K P q' → q' = x ++ ".<locals>." ++ "<lambda>" := by
  have z := List.all_eq_true.mp (ba e).1 x hx
  split at z
  · rename_i c P hl
    obtain ⟨z1, z⟩ := ba z
    obtain ⟨z2, z3⟩ := ba z
    refine ⟨c, P, hl, by simpa using z1, z2, fun q' hq => ?_⟩
    obtain ⟨a, o, y, m, t, eq, _⟩ := tabOf_ok hq
    have z4 := List.all_eq_true.mp z3 _ m
    dsimp only at z4
    rw [t] at z4
    have ey : y = x := by simpa using z4
    rw [eq, ey]
  · cases z
theorem lam_ok {mg : Str → Option Value} {base : Heap} (e : lamsB lam K = true) {x : Str} (hx : x ∈ lam) (T : ∀ p ∈ tabs K lam, TabB base mg p.1 p.2) : LamOk K mg base x := by
  obtain ⟨c, P, h1, h2, _, h4⟩ := lams_at e hx
  exact ⟨c, P, h1, T (c, P) (List.mem_filterMap.mpr ⟨x, hx, h1⟩), h2, h4⟩
theorem tabs_mem {p : Addr × Addr} (hp : p ∈ tabs K lam) : ∃ x ∈ lam, lamAt K x = some p := List.mem_filterMap.mp hp
theorem tabs_none (e : lamsB lam K = true) : ∀ p ∈ tabs K lam, K.lookup p.2 = none := fun p hp => by
  obtain ⟨x, hx, h1⟩ := tabs_mem hp
  obtain ⟨c, P, h2, h3, _⟩ := lams_at e hx
  rw [h1] at h2
  cases h2
  exact h3
theorem tabs_code (e : lamsB lam K = true) (X : K.In h) : ∀ p ∈ tabs K lam, CodeHd h p.1 p.2 := fun p hp => by
  obtain ⟨x, hx, h1⟩ := tabs_mem hp
  obtain ⟨c, P, h2, _, h4, _⟩ := lams_at e hx
  rw [h1] at h2
  cases h2
  exact codeHdB_ok X h4
theorem tabs_all (e : lamsB lam K = true) {H : Hp} (hH : ∀ p ∈ tabs K lam, H p.2 = some (.tbl #[])) (P : Addr) (q : Str) (hP : TabK K P q) : H P = some (.tbl #[]) := by
  obtain ⟨a, o, y, m, t, _, n⟩ := tabOf_ok hP
  have z := List.all_eq_true.mp (ba e).2 _ m
  dsimp only at z
  rw [t] at z
  dsimp only at z
  rw [n] at z
  have z2 : P ∈ (tabs K lam).map (·.2) := by simpa using z
  obtain ⟨p, hp, ep⟩ := List.mem_map.mp z2
  rw [← ep]
  exact hH p hp
end
end HKT
namespace DL
open PySem PySem.Spec L2 LamX PyProof.Rows
def noLam (q : Str) : Lam := ⟨q, { posonlyargs := [], args := [], vararg := none, kwonlyargs := [], kw_defaults := [], kwarg := none, defaults := [] }, .Name q ⟨0, 0, 0, 0⟩, { kind := .function, names := [], isGenerator := false, isCoroutine := false, more := [] }⟩
def lamE (q : Str) : Expr → Lam
  | .Lambda ps b sc _ => ⟨q, ps, b, sc⟩
  | _ => noLam q
/-- the lambda at the head of the k-th pair of the list that the def gives back -/
def cloLam (q : Str) (body : List Stmt) (k : Nat) : Lam := match body.getLast? with
  | some (.Return (some (.List es _)) _) => (match es[k]? with
    | some (.Tuple (e :: _) _ _) => lamE q e
    | _ => noLam q)
  | _ => noLam q
section
variable {X : Cx} {W : WX} {c P : Addr} {params : Arguments} {body : Expr} {scope : Scope} {q : Str} {lpos : Pos} {l : Lam}
theorem je_lamW (TB : TabB X.base X.mg c P) (hcode : X.env.code = .ref c) (hqq : X.env.qual ++ "<lambda>" = q) (hq : TabK X.K P (X.env.qual ++ "<lambda>")) (hu : ∀ q', TabK X.K P q' → q' = X.env.qual ++ "<lambda>") (L : LamS X.env.scope scope) (hdef : defaultsOf params X.env = ([], [])) (hl : ⟨q, params, body, scope⟩ = l) :
    JE X W (.Lambda params body scope lpos) (mLamF l X.env.cells) := by
  subst hl
  exact je_lamF TB hcode hqq hq hu L hdef
end
end DL
namespace DL
open PySem PySem.Spec L2
section
variable {P : Program} {w : World} {K : PySem.W.Frag} {mg : Str → Option Value} {base : Heap} {kb : Nat} {l : Lam} {mb : ME} {T : LamT}
theorem lamBs_nil : ∀ p ∈ ([] : LamT), LamB P w K mg base kb p.1 p.2 := fun p hp => by cases hp
theorem lamBs_cons (h : LamB P w K mg base kb l mb) (t : ∀ p ∈ T, LamB P w K mg base kb p.1 p.2) : ∀ p ∈ ((l, mb) :: T : LamT), LamB P w K mg base kb p.1 p.2 := fun p hp => by
  rcases List.mem_cons.mp hp with e | hp
  · subst e; exact h
  · exact t p hp
end
end DL
namespace DL
open PySem PySem.Spec L2
theorem repF_none {K : PySem.W.Frag} {G : Gh} {m : Str} : ∀ {fvs : List (Str × V)} {fs : List (Str × D)}, RepF K G fvs fs → fs.lookup m = none → fvs.lookup m = none
  | _, _, .nil, _ => rfl
  | _, _, .cons (f := f) p r, h => by
    rw [List.lookup_cons] at h ⊢
    cases e : m == f with
    | true => rw [e] at h; cases h
    | false => rw [e] at h; exact repF_none r h
section
variable {X : Cx} {CX : CXT} {k : Nat} {C f : Addr} {fd : FuncData} {ps : List Str} {sp : Sp} {dvs : List V} {ds : List Value} {E : L2.St → XK} {o e : Expr} {es : List Expr} {m : Str} {ta : TE} {t : TA} {apos pos : Pos} {pl : Sem Bool}
def tMethA (C : Addr) (m : Str) (sp : Sp) (dvs : List V) (E : L2.St → XK) (ta : TE) (t : TA) : TE := fun σ H Q => ta σ H fun x H1 => ∃ a dx fs, x = .ref a ∧ H1 a = some (.ins C dx fs) ∧ fs.lookup m = none ∧ t σ H1 fun vs H2 => sp (x :: (vs ++ dvs)) H2 Q (E σ)
theorem pe_methA (he : PE X o ta) (c : Cls X.K C) (hm : Meth X.K C m f) (F : FnOk X.prog X.w X.K X.mg X.base CX k f fd ps sp) (hr : Room k X.A) (hb : Binds X.K fd ps ds) (hd : Vals dvs ds) (hx : ∀ σ, PassesAt CX X σ (E σ)) (ha : PA X (e :: es) t)
    (hst : starEach (e :: es) X.env = (false, eval e X.env) :: starEach es X.env := by rfl) (hpl : (backTo pos (starEach es X.env)).any (·.1) = false := by rfl)
    (ht : eval (.Call (.Attribute o m apos) (e :: es) [] pos) X.env = (do
      let ov ← eval o X.env
      standAt apos.atName
      let (f, first) ← holding [ov] (getMethod ov m pl)
      callWith pos f first (backTo pos (starEach (e :: es) X.env)) (backToKw pos (keywordEach [] X.env))) := by rfl) :
    PE X (.Call (.Attribute o m apos) (e :: es) [] pos) (tMethA C m sp dvs E ta t) := by
  refine ⟨fun pins s σ H Q I h => ?_⟩
  refine PySem.W.methodCall_KW (pl := pl) (thn (he.run pins s σ H _ I h) fun u s1 ⟨x, H1, I1, rx, a, dx, fs, ex, ea, l, q⟩ => ?_) ht
  subst ex; obtain rfl : u = Value.ref a := rx
  refine getmeth_ok I1 ea c hm l ?_
  refine PySem.W.callWith_K (first := [.ref a]) (h₀ := X.base) I.ok.mod.kin hm.kp (thn (ha.run pos pins s1 σ H1 _ I1 q) fun us s2 ⟨vs, H2, I2, r, q2⟩ => ⟨I2.kIn, ?_⟩) hst hpl
  exact run_fnSD (E := E) (us := .ref a :: us) (vs := .ref a :: vs) F hr hb hd (hx σ) I2 (.cons rfl r) q2
variable {n : Nat} {ks : List Str} {kws : List Keyword} {tk : TA} {g : List Value → List Value → List Value} {gV : List V → List V → List V}
theorem run_fnNA {pins : List (Addr × Obj)} {σ : L2.St} {H : Hp} {s : Shared} {Q : VK} {us ws : List Value} {vs zs : List V} (F : FnOk X.prog X.w X.K X.mg X.base CX k f fd ps sp) (hr : Room k X.A) (hb : KBn X.K fd ps n ks g gV) (hx : PassesAt CX X σ (E σ))
    (I : Inv X pins σ H s) (r : Vals vs us) (rz : Vals zs ws) (l1 : vs.length = n) (l2 : zs.length = ks.length) (h : sp (gV vs zs) H Q (E σ)) : wpAny (model X.prog X.w) X.A (call (.ref f) us (ks.zip ws)) (EP X pins σ Q) X.xe s := by
  have r2 := hb.rel r rz
  refine wpAny_call (codeAny_mono (F.run X.A X.stack s H ⟨us, ks.zip ws⟩ (g us ws) (gV vs zs) Q (E σ) hr I.env0 (hb.to s us ws I.kIn (r.length.symm.trans l1) (rz.length.symm.trans l2)) r2 h) fun r s' hq => ?_)
  match r, hq with
  | .error e, hq => exact hx pins H s e s' I hq
  | .ok (.ret u), hq => exact I.after hq
  | .ok .next, hq => exact False.elim hq
  | .ok .brk, hq => exact False.elim hq
  | .ok .cont, hq => exact False.elim hq
/-- o.m(k = v, ..) without positional ones -/
def tMethKw (C : Addr) (m : Str) (sp : Sp) (nk : Nat) (gV : List V → List V → List V) (E : L2.St → XK) (ta : TE) (tk : TA) : TE := fun σ H Q => ta σ H fun x H1 => ∃ a dx fs, x = .ref a ∧ H1 a = some (.ins C dx fs) ∧ fs.lookup m = none ∧ tk σ H1 fun zs H2 => zs.length = nk ∧ sp (gV [x] zs) H2 Q (E σ)
theorem pe_methKw (he : PE X o ta) (c : Cls X.K C) (hm : Meth X.K C m f) (F : FnOk X.prog X.w X.K X.mg X.base CX k f fd ps sp) (hr : Room k X.A) (hb : KBn X.K fd ps 1 ks g gV) (hx : ∀ σ, PassesAt CX X σ (E σ)) (hkw : PK X kws tk)
    (hall : (backToKw pos (keywordEach kws X.env)).all (·.1.isSome) = true := by rfl) (hks : (backToKw pos (keywordEach kws X.env)).filterMap (·.1) = ks := by rfl)
    (hpl : ((backTo pos (starEach [] X.env)).any (·.1) || (backToKw pos (keywordEach kws X.env)).any (·.1.isNone)) = false := by rfl)
    (ht : eval (.Call (.Attribute o m apos) [] kws pos) X.env = (do
      let ov ← eval o X.env
      standAt apos.atName
      let (f, first) ← holding [ov] (getMethod ov m pl)
      callWith pos f first (backTo pos (starEach [] X.env)) (backToKw pos (keywordEach kws X.env))) := by rfl) :
    PE X (.Call (.Attribute o m apos) [] kws pos) (tMethKw C m sp ks.length gV E ta tk) := by
  refine ⟨fun pins s σ H Q I h => ?_⟩
  refine PySem.W.methodCall_KW (pl := pl) (thn (he.run pins s σ H _ I h) fun u s1 ⟨x, H1, I1, rx, a, dx, fs, ex, ea, l, q⟩ => ?_) ht
  subst ex; obtain rfl : u = Value.ref a := rx
  refine getmeth_ok I1 ea c hm l ?_
  refine PySem.W.callWith_KW0 (first := [.ref a]) (h₀ := X.base) I.ok.mod.kin hm.kp hall (thn (hkw.run pos pins s1 σ H1 _ I1 q) fun ws s2 ⟨zs, H2, I2, rz, l2, q2⟩ => ⟨I2.kIn, ?_⟩) hpl
  rw [hks]
  exact run_fnNA (E := E) (us := [.ref a]) (vs := [.ref a]) F hr hb (hx σ) I2 (.cons rfl .nil) rz rfl l2 q2
end
/-- o.m(..): dd, what is not handed in -/
def mMeth (c m : Str) (fn : Fn) (dd : List D) (mf : ME) (mm : MA) : ME := bnd mf fun x s0 => match insAt c s0 x with
  | some (_, fs) => if fs.lookup m = none then bnd mm (fun ds s => outR s (fn (x :: (ds ++ dd)) s.st)) s0 else .stuck
  | none => .stuck
section
variable {X : Cx} {W : WX} {k : Nat} {g : Addr} {ps : List Str} {fn : Fn} {c nm : Str} {o e : Expr} {es : List Expr} {mf : ME} {mm : MA} {apos pos : Pos} {dd : List D} {pl : Sem Bool}
theorem je_meth (hC : Cls X.K (He.ga X.K c)) (hm : Meth X.K (He.ga X.K c) nm g) (F : KnD X.prog X.w X.K X.mg X.base g k ps fn dd) (hr : Room k X.A) (tk : L2N.Takes X W) (ho : JE X W o mf) (ha : JA X W (e :: es) mm) (hl : (e :: es).length + dd.length + 1 = ps.length := by rfl)
    (hst : starEach (e :: es) X.env = (false, eval e X.env) :: starEach es X.env := by rfl) (hpl : (backTo pos (starEach es X.env)).any (·.1) = false := by rfl)
    (ht : eval (.Call (.Attribute o nm apos) (e :: es) [] pos) X.env = (do
      let ov ← eval o X.env
      standAt apos.atName
      let (f, first) ← holding [ov] (getMethod ov nm pl)
      callWith pos f first (backTo pos (starEach (e :: es) X.env)) (backToKw pos (keywordEach [] X.env))) := by rfl) :
    JE X W (.Call (.Attribute o nm apos) (e :: es) [] pos) (mMeth c nm fn dd mf mm) := by
  obtain ⟨fd, dvs, ds, F, hb, hd, hD⟩ := F
  refine PE.imp (pe_methA (E := WE W) ho hC hm F hr hb hd (fun σ => L2N.passAt tk σ) ha.pa hst hpl ht) fun σ H Q h => ?_
  obtain ⟨w, rfl, rfl, r, h⟩ := h
  refine run r h fun x s1 G1 vx H1 g1 r1 p1 h1 => ?_
  cases hi : insAt c s1 x with
  | none => simp only [hi] at h1; exact h1.elim
  | some qx =>
    obtain ⟨n, fs⟩ := qx
    simp only [hi] at h1
    obtain ⟨i, di, fi, rfl, _, e1, q1, _⟩ := insAt_rel (w := { w with G := G1, H := H1, s := s1 }) (fs := fs) (n := n) r1 p1 hi
    split at h1
    · rename_i hf
      refine ⟨i, di, fi, rfl, e1, repF_none q1 hf, ?_⟩
      refine run' r1 h1 fun as s2 G2 vs H2 hm2 g2 r2 q2 h2 => ?_
      have hl2 := (hD G2).length
      exact call_run (W := W) (fn := fn) (w := { w with G := G2, H := H2, s := s2 }) r2 (.cons (p1.mono g2) (q2.append (hD G2))) (by rw [List.length_cons, List.length_append, q2.length, ha.len _ _ _ hm2, hl2, ← hl]) h2
    · exact h1.elim
end
/-- the def at g does fn; called with n positional values and the keywords ks, the values stand in its parameters as arr has them (a default: .inl d) -/
def KnW (P : Program) (w : World) (K : PySem.W.Frag) (mg : Str → Option Value) (base : Heap) (g : Addr) (k : Nat) (ps : List Str) (fn : Fn) (n : Nat) (ks : List Str) (arr : List D → List D → List D) : Prop :=
  ∃ fd gv gV, FnOk P w K mg base (L2N.CX P w) k g fd ps (spF K ps.length fn) ∧ KBn K fd ps n ks gv gV ∧ ∀ G vs zs ds es, Reps K G vs ds → Reps K G zs es → vs.length = n → zs.length = ks.length → Reps K G (gV vs zs) (arr ds es)
/-- o.m(k = v, ..) -/
def mMethKw (c m : Str) (fn : Fn) (nk : Nat) (arr : List D → List D → List D) (mf : ME) (mm : MA) : ME := bnd mf fun x s0 => match insAt c s0 x with
  | some (_, fs) => if fs.lookup m = none then bnd mm (fun ds s => if ds.length = nk then outR s (fn (arr [x] ds) s.st) else .stuck) s0 else .stuck
  | none => .stuck
def JK (X : Cx) (W : WX) (kws : List Keyword) (m : MA) : Prop := PK X kws (tG X.K X.pn W (ARs X.K) m)
theorem je_methKw {X : Cx} {W : WX} {k : Nat} {g : Addr} {ps : List Str} {fn : Fn} {c nm : Str} {o : Expr} {kws : List Keyword} {mf : ME} {mm : MA} {apos pos : Pos} {ks : List Str} {arr : List D → List D → List D} {pl : Sem Bool}
    (hC : Cls X.K (He.ga X.K c)) (hm : Meth X.K (He.ga X.K c) nm g) (F : KnW X.prog X.w X.K X.mg X.base g k ps fn 1 ks arr) (hr : Room k X.A) (tk : L2N.Takes X W) (ho : JE X W o mf) (ha : JK X W kws mm)
    (hl : ∀ x as, as.length = ks.length → (arr [x] as).length = ps.length)
    (hall : (backToKw pos (keywordEach kws X.env)).all (·.1.isSome) = true := by rfl) (hks : (backToKw pos (keywordEach kws X.env)).filterMap (·.1) = ks := by rfl)
    (hpl : ((backTo pos (starEach [] X.env)).any (·.1) || (backToKw pos (keywordEach kws X.env)).any (·.1.isNone)) = false := by rfl)
    (ht : eval (.Call (.Attribute o nm apos) [] kws pos) X.env = (do
      let ov ← eval o X.env
      standAt apos.atName
      let (f, first) ← holding [ov] (getMethod ov nm pl)
      callWith pos f first (backTo pos (starEach [] X.env)) (backToKw pos (keywordEach kws X.env))) := by rfl) :
    JE X W (.Call (.Attribute o nm apos) [] kws pos) (mMethKw c nm fn ks.length arr mf mm) := by
  obtain ⟨fd, gv, gV, F, hb, hG⟩ := F
  refine PE.imp (pe_methKw (E := WE W) ho hC hm F hr hb (fun σ => L2N.passAt tk σ) ha hall hks hpl ht) fun σ H Q h => ?_
  obtain ⟨w, rfl, rfl, r, h⟩ := h
  refine run r h fun x s1 G1 vx H1 g1 r1 p1 h1 => ?_
  cases hi : insAt c s1 x with
  | none => simp only [hi] at h1; exact h1.elim
  | some qx =>
    obtain ⟨n, fs⟩ := qx
    simp only [hi] at h1
    obtain ⟨i, di, fi, rfl, _, e1, q1, _⟩ := insAt_rel (w := { w with G := G1, H := H1, s := s1 }) (fs := fs) (n := n) r1 p1 hi
    split at h1
    · rename_i hf
      refine ⟨i, di, fi, rfl, e1, repF_none q1 hf, ?_⟩
      refine run' r1 h1 fun as s2 G2 vs H2 hm2 g2 r2 q2 h2 => ?_
      split at h2
      · rename_i hln
        have hvl : vs.length = ks.length := by rw [q2.length, hln]
        refine ⟨hvl, ?_⟩
        have qq := hG G2 _ _ _ _ (.cons (p1.mono g2) .nil) q2 rfl hvl
        exact call_run (W := W) (fn := fn) (w := { w with G := G2, H := H2, s := s2 }) r2 qq (by rw [qq.length, hl _ _ hln]) h2
      · exact h2.elim
    · exact h1.elim
end DL
namespace DL
open PySem PySem.Spec L2
/-- v is a new list at the end, that was not there at the entry -/
def FreshL (K : PySem.W.Frag) (G' : Gh) (H H' : Hp) (v : V) (ds : List D) : Prop := ∃ a vs, v = .ref a ∧ H' a = some (.lst vs) ∧ Reps K G' vs ds ∧ G'.F a = none ∧ a ∉ G'.ad ∧ H a = none
def okFO (K : PySem.W.Frag) (G : Gh) (H : Hp) (Q : VK) (E : XK) : RO → Prop
  | .ok (.lst ds) st' => ∀ G' v H', Le G H G' H' → At K G' H' st' → FreshL K G' H H' v ds → Q v H'
  | .exc x st' => ∀ G' c d H', Le G H G' H' → At K G' H' st' → XRep K G' c d x → E c d H'
  | _ => False
def spFO (K : PySem.W.Frag) (n : Nat) (f : Fn) : Sp := fun vs H Q E => ∃ (G : Gh) (ds : List D) (st : List Ob), vs.length = n ∧ At K G H st ∧ Reps K G vs ds ∧ okFO K G H Q E (f ds st)
def okSO (K : PySem.W.Frag) (pn : List (Addr × Obj)) (W : WX) (w : Wd) (D : Ends) : R Fl → Prop
  | .ok fl s' => ∀ G' σ' H', w.G.le G' → Rel K pn { w with G := G', σ := σ', H := H', s := s' } → match fl with
    | .nx => D.nx σ' H'
    | .rt (.lst ds) => ∀ v, AF K { w with G := G', σ := σ', H := H', s := s' } v ds → D.rt v H'
    | _ => False
  | .exc x s' => ∀ G' σ' c d H', w.G.le G' → Rel K pn { w with G := G', σ := σ', H := H', s := s' } → XRep K G' c d x → W c d σ' H'
  | .stuck => False
def tSO (K : PySem.W.Frag) (pn : List (Addr × Obj)) (W : WX) (m : MS) : TS := fun D σ H => ∃ w : Wd, w.σ = σ ∧ w.H = H ∧ Rel K pn w ∧ okSO K pn W w D (m w.s)
def JSO (X : Cx) (W : WX) (st : Stmt) (m : MS) : Prop := PS X st (tSO X.K X.pn W m)
def JSsO (X : Cx) (W : WX) (st : List Stmt) (m : MS) : Prop := PSs X st (tSO X.K X.pn W m)
theorem okSO.up {K : PySem.W.Frag} {pn : List (Addr × Obj)} {W : WX} {D : Ends} {w : Wd} {r : R Fl} (h : okSO K pn W w D r) {G' : Gh} {σ' : L2.St} {H' : Hp} {s' : S} (e : w.G.le G') : okSO K pn W { w with G := G', σ := σ', H := H', s := s' } D r := by
  cases r with
  | ok a s2 => exact fun G2 σ2 H2 e2 r2 => h G2 σ2 H2 (e.trans e2) r2
  | exc x s2 => exact fun G2 σ2 c d H2 e2 r2 a2 => h G2 σ2 c d H2 (e.trans e2) r2 a2
  | stuck => exact h
/-- a statement that does not give back -/
def mN (m : MS) : MS := fun s => match m s with
  | .ok .nx s' => .ok .nx s'
  | .exc x s' => .exc x s'
  | _ => .stuck
/-- return x, x owns its list -/
def mRetT (i : Nat) : MS := fun s => match s.sl[i]? with
  | some (.own ds) => .ok (.rt (.lst ds)) (s.put i .emp)
  | _ => .stuck
section
variable {X : Cx} {W : WX} {e : Expr} {m : MA} {pos : Pos} {st : Stmt} {rest : List Stmt} {ms ms' : MS}
theorem jso_of (h : JS X W st ms) : JSO X W st (mN ms) := by
  refine PS.imp h fun D σ H h => ?_
  obtain ⟨w, rfl, rfl, r, h⟩ := h
  refine ⟨w, rfl, rfl, r, ?_⟩
  unfold mN at h
  cases hm : ms w.s with
  | ok fl s' =>
    rw [hm] at h
    cases fl with
    | nx => exact h
    | bk => exact h.elim
    | ct => exact h.elim
    | rt d => exact h.elim
  | exc x s' => rw [hm] at h; exact h
  | stuck => rw [hm] at h; exact h.elim
theorem js_N (h : JS X W st ms) : JS X W st (mN ms) := by
  refine PS.imp h fun D σ H h => ?_
  obtain ⟨w, rfl, rfl, r, h⟩ := h
  refine ⟨w, rfl, rfl, r, ?_⟩
  unfold mN at h
  cases hm : ms w.s with
  | ok fl s' =>
    rw [hm] at h
    cases fl with
    | nx => exact h
    | bk => exact h.elim
    | ct => exact h.elim
    | rt d => exact h.elim
  | exc x s' => rw [hm] at h; exact h
  | stuck => rw [hm] at h; exact h.elim
theorem jsso_one (h : JSO X W st ms) : JSsO X W [st] ms := pss_one h
theorem jsso_cons (h1 : JSO X W st ms) (h2 : JSsO X W rest ms') : JSsO X W (st :: rest) (mSeq ms ms') := by
  refine PSs.imp (pss_cons h1 h2) fun D σ H h => ?_
  obtain ⟨w, rfl, rfl, r, h⟩ := h
  refine ⟨w, rfl, rfl, r, ?_⟩
  unfold mSeq at h
  cases hm : ms w.s with
  | ok fl s' =>
    rw [hm] at h
    cases fl with
    | nx => exact fun G' σ' H' g r' => ⟨_, rfl, rfl, r', okSO.up (w := w) h g⟩
    | bk => exact fun G' σ' H' g r' => (h G' σ' H' g r').elim
    | ct => exact fun G' σ' H' g r' => (h G' σ' H' g r').elim
    | rt d =>
      intro G' σ' H' g r'
      have := h G' σ' H' g r'
      cases d <;> exact this
  | exc x s' => rw [hm] at h; exact h
  | stuck => rw [hm] at h; exact h.elim
theorem Rel.drop {K : PySem.W.Frag} {pn : List (Addr × Obj)} {w : Wd} {i : Nat} (r : Rel K pn w) : Rel K pn { w with s := w.s.put i .emp } := by
  have old : ∀ {j : Nat} {x : Slot}, (w.s.put i .emp).sl[j]? = some x → x ≠ .emp → w.s.sl[j]? = some x ∧ j ≠ i := fun {j x} h hx => by
    have h : (w.s.sl.set i .emp)[j]? = some x := h
    rcases set_get h with ⟨_, e⟩ | ⟨e, h⟩
    · exact (hx e).elim
    · exact ⟨h, e⟩
  refine ⟨r.ex, r.le, r.st, ⟨?_, fun j d h => r.sl.imm j d (old h nofun).1, fun j ds h => r.sl.own j ds (old h nofun).1, fun j k ds es a h1 h2 h3 h4 => r.sl.dis j k ds es a (old h1 nofun).1 (old h2 nofun).1 h3 h4, fun j x h => r.sl.xn j x (old h nofun).1⟩, fun q hq => ?_, r.tb⟩
  · show w.σ.length = (w.s.sl.set i .emp).length
    rw [List.length_set]; exact r.sl.len
  · obtain ⟨p1, p2, p3, p4, p5⟩ := r.pr q hq
    exact ⟨p1, p2, p3, p4, fun j es h => p5 j es (old h nofun).1⟩
theorem own_AF {K : PySem.W.Frag} {pn : List (Addr × Obj)} {w : Wd} {i : Nat} {ds : List D} (r : Rel K pn w) (hi : w.s.sl[i]? = some (.own ds)) : ∃ a, w.σ[i]? = some (some (.ref a)) ∧ AF K { w with s := w.s.put i .emp } (.ref a) ds := by
  obtain ⟨a, vs, e1, e2, e3, e4, e5, e6⟩ := r.sl.own i ds hi
  refine ⟨a, e1, a, vs, rfl, e2, e3, e4, e5, e6, fun j es h z => ?_, fun q hq z => ?_⟩
  · have h : (w.s.sl.set i .emp)[j]? = some (.own es) := h
    rcases set_get h with ⟨_, e⟩ | ⟨e, h⟩
    · cases e
    · exact e (r.sl.dis j i es ds a h hi z e1)
  · have := (r.pr q hq).2.2.2.2 i ds hi
    rw [z] at this
    exact this e1
theorem jso_retV (i : Nat) {x : Str} {p : Pos} (hN : X.N[i]? = some x := by rfl) (hv : Vis X.env.scope x := by first | exact Or.inl rfl | exact Or.inr (Or.inl rfl) | exact Or.inr (Or.inr rfl)) (hd : (x == ("__debug__" : Str)) = false := by decide)
    (hcd : (x == ("__classdict__" : Str)) = false := by decide) : JSO X W (.Return (some (.Name x p)) pos) (mRetT i) := by
  refine PS.imp (ps_ret (pe_var hN hv hd hcd)) fun D σ H h => ?_
  obtain ⟨w, rfl, rfl, r, h⟩ := h
  unfold mRetT at h
  split at h
  · rename_i ds hi
    obtain ⟨a, e1, e2⟩ := own_AF r hi
    exact ⟨.ref a, e1, h w.G w.σ w.H (.refl _) r.drop _ e2⟩
  · exact h.elim
theorem js_retT (i : Nat) {x : Str} {p : Pos} (hN : X.N[i]? = some x := by rfl) (hv : Vis X.env.scope x := by first | exact Or.inl rfl | exact Or.inr (Or.inl rfl) | exact Or.inr (Or.inr rfl)) (hd : (x == ("__debug__" : Str)) = false := by decide)
    (hcd : (x == ("__classdict__" : Str)) = false := by decide) : JS X W (.Return (some (.Name x p)) pos) (mRetT i) := by
  refine PS.imp (ps_ret (pe_var hN hv hd hcd)) fun D σ H h => ?_
  obtain ⟨w, rfl, rfl, r, h⟩ := h
  unfold mRetT at h
  split at h
  · rename_i ds hi
    obtain ⟨a, e1, e2⟩ := own_AF r hi
    obtain ⟨G', g, r', p'⟩ := AF.rep r.drop e2
    exact ⟨.ref a, e1, h G' w.σ w.H g r' _ p'⟩
  · exact h.elim
end
section
variable {P : Program} {w : World} {K : PySem.W.Frag} {mg : Str → Option Value} {base : Heap} {x qual q : Str} {params : Arguments} {body : List Stmt} {scope : Scope} {dvs dv2 : List V} {kws : List (Str × V)} {f g : Addr} {fd : FuncData} {st : Stmt} {dd : List D}
theorem fn_okO {N ps : List Str} {k : Nat} {m : MS} (F : FunD K x qual params body scope dvs kws f fd) (Sc : FnScope N ps scope)
    (hb : ∀ (cdv : Value) (A : Around) (outer : List Env) (s : Shared) (H : Hp) (E : XK), Room k (A.deeper (PyProof.Rows.envOfC qual scope s.heap.objs.size f cdv)) → JSsO (cxOf (L2N.CX P w) P w K mg base N qual scope f cdv A outer s H E) (fun c d _ H => E c d H) body m) :
    FnOk P w K mg base (L2N.CX P w) (k + 1) f fd ps (spFO K ps.length (fnM N.length m)) := by
  refine F.ok Sc (fun vs H Q E h => ?_) (fun cdv A outer s H vs Q E hr h => ⟨_, hb cdv A outer s H E hr, ?_⟩)
  · obtain ⟨G, ds, st, hl, _⟩ := h
    exact hl
  · obtain ⟨G, ds, st, hl, a, r, h⟩ := h
    refine ⟨⟨G, H, G, L2.start N vs, H, ⟨slots N.length ds, st⟩, []⟩, rfl, rfl, rel_start a r, ?_⟩
    show okSO K [] _ _ _ (m ⟨slots N.length ds, st⟩)
    unfold fnM at h
    cases hm : m ⟨slots N.length ds, st⟩ with
    | ok fl s' =>
      rw [hm] at h
      cases fl with
      | nx => exact h.elim
      | rt d =>
        cases d with
        | lst es => exact fun G' σ' H' g r' v p => h G' v H' r'.le ⟨r'.ex, r'.st, r'.tb.here⟩ (by
            obtain ⟨a, vs, e0, e1, e2, e3, e4, e5, _⟩ := p
            exact ⟨a, vs, e0, e1, e2, e3, e4, e5⟩)
        | _ => exact h.elim
      | bk => exact h.elim
      | ct => exact h.elim
    | exc e s' =>
      rw [hm] at h
      exact fun G' σ' c d H' g r' p => h G' c d H' r'.le ⟨r'.ex, r'.st, r'.tb.here⟩ p
    | stuck => rw [hm] at h; exact h
def KnO (P : Program) (w : World) (K : PySem.W.Frag) (mg : Str → Option Value) (base : Heap) (x : Str) (k : Nat) (ps : List Str) (fn : Fn) : Prop := ∃ f fd, FnOk P w K mg base (L2N.CX P w) k f fd ps (spFO K ps.length fn) ∧ mg x = some (.ref f) ∧ PySem.W.keepIn K (.ref f) = true ∧ Binds K fd ps []
theorem kno_ok {N ps : List Str} {k : Nat} {m : MS} (F : FnW K x st) (hm : mg x = some (.ref (He.ga K x))) (Sc : FnScope N ps (defScope st))
    (hbn : ∀ (kV doc pm : Value) (an : Option Addr) (cdv ct : Value) (us : List Value), us.length = ps.length → bindArgs (PySem.W.fnOf x x (defArgs st) (defBody st) (defScope st) .none kV doc pm an cdv ct) ⟨us, []⟩ = pure (ps.zip us))
    (hb : ∀ (cdv : Value) (A : Around) (outer : List Env) (s : Shared) (H : Hp) (E : XK), Room k (A.deeper (PyProof.Rows.envOfC x (defScope st) s.heap.objs.size (He.ga K x) cdv)) →
      L2N.Takes (cxOf (L2N.CX P w) P w K mg base N x (defScope st) (He.ga K x) cdv A outer s H E) (fun c d _ H => E c d H) → PassesOwn (model P w) (A.deeper (PyProof.Rows.envOfC x (defScope st) s.heap.objs.size (He.ga K x) cdv)) (PyProof.Rows.envOfC x (defScope st) s.heap.objs.size (He.ga K x) cdv) (cxOf (L2N.CX P w) P w K mg base N x (defScope st) (He.ga K x) cdv A outer s H E).xe →
      (A.deeper (PyProof.Rows.envOfC x (defScope st) s.heap.objs.size (He.ga K x) cdv)).units + 64 < cLine → (A.deeper (PyProof.Rows.envOfC x (defScope st) s.heap.objs.size (He.ga K x) cdv)).units + 1 < cLine →
      JSsO (cxOf (L2N.CX P w) P w K mg base N x (defScope st) (He.ga K x) cdv A outer s H E) (fun c d _ H => E c d H) (defBody st) m) :
    KnO P w K mg base x (k + 1) ps (fnM N.length m) := by
  obtain ⟨fd, F⟩ := F
  refine ⟨He.ga K x, fd, fn_okO F Sc fun cdv A outer s H E hr => ?_, hm, F.kp, F.bindsN hbn⟩
  exact hb cdv A outer s H E hr (L2N.takes_of rfl rfl rfl rfl) (passes_of (X := cxOf (L2N.CX P w) P w K mg base N x (defScope st) (He.ga K x) cdv A outer s H E) rfl) (by have := hr.un; omega) (by have := hr.un; omega)
end
def outL (s : S) : RO → R (List D)
  | .ok (.lst ds) st => .ok ds { s with st := st }
  | .exc x st => .exc x { s with st := st }
  | _ => .stuck
def mCallF (f : Fn) (m : MA) : MA := bnd m fun ds s => outL s (f ds s.st)
section
variable {X : Cx} {W : WX} {k : Nat} {f g : Addr} {fd : FuncData} {ps : List Str} {fn : Fn} {x c nm : Str} {p pos apos : Pos} {o e : Expr} {es : List Expr} {m mm : MA} {mf : ME} {dd : List D} {pl : Sem Bool}
theorem call_runO {w : Wd} {vs : List V} {as : List D} {n : Nat} {Q : VK} (r : Rel X.K X.pn w) (q : Reps X.K w.G vs as) (hn : vs.length = n) (h : okG X.K X.pn W (AF X.K) w Q (outL w.s (fn as w.s.st))) : spFO X.K n fn vs w.H Q (WE W w.σ) := by
  refine ⟨w.G, as, w.s.st, hn, ⟨r.ex, r.st, r.tb.here⟩, q, ?_⟩
  cases hf : fn as w.s.st with
  | ok d st' =>
    rw [hf] at h
    cases d with
    | lst ds =>
      intro G' v H' l a hv
      obtain ⟨b, us, rfl, e1, e2, e3, e4, e5⟩ := hv
      refine h G' _ H' l.g (r.after l a) ⟨b, us, rfl, e1, e2, e3, e4, r.le.free e5, fun i es hi z => ?_, fun y hy z => ?_⟩
      · obtain ⟨b2, vs2, k1, k2, _⟩ := r.sl.own i es hi
        have z : w.σ[i]? = some (some (.ref b)) := z
        rw [k1] at z
        cases z
        rw [e5] at k2; cases k2
      · have k1 := (r.pr y hy).1
        rw [z, e5] at k1; cases k1
    | _ => exact h.elim
  | exc y st' =>
    rw [hf] at h
    exact fun G' c d H' l a p => h G' c d H' l.g (r.after l a) p
  | stuck =>
    rw [hf] at h
    exact h
theorem jf_callO (C : KnO X.prog X.w X.K X.mg X.base x k ps fn) (hr : Room k X.A) (tk : L2N.Takes X W) (hg : Gl X x)
    (ha : JA X W (e :: es) m) (hl : (e :: es).length = ps.length := by rfl) (hdb : (x == ("__debug__" : Str)) = false := by decide) (he : starEach (e :: es) X.env = (false, eval e X.env) :: starEach es X.env := by rfl) (hpl : (backTo pos (starEach es X.env)).any (·.1) = false := by rfl) :
    JF X W (.Call (.Name x p) (e :: es) [] pos) (mCallF fn m) := by
  obtain ⟨f, fd, F, hm, hk, hb⟩ := C
  refine PE.imp (pe_callSD (E := WE W) F hr hg hm hk hb (Paired.nil) (fun σ => L2N.passAt tk σ) ha.pa hdb he hpl) fun σ H Q h => ?_
  obtain ⟨w, rfl, rfl, r, h⟩ := h
  refine run' r h fun as s' G' vs H' hm2 g r' q h' => ?_
  refine call_runO (fn := fn) (w := { w with G := G', H := H', s := s' }) r' (by rw [List.append_nil]; exact q) ?_ h'
  rw [List.append_nil, q.length, ha.len _ _ _ hm2]
  exact hl
theorem jk_nil : JK X W [] mNil := by
  refine ⟨fun pos pins s σ H Q I h => (pk_nil (X := X)).run pos pins s σ H Q I ?_⟩
  obtain ⟨w, rfl, rfl, r, h⟩ := h
  exact fin r h .nil
theorem jk_cons {kws : List Keyword} {kpos : Pos} {nk : Option Str} {me : ME} {ms : MA} (he : JE X W e me) (hs : JK X W kws ms) : JK X W (⟨nk, e, kpos⟩ :: kws) (mCons me ms) := by
  refine ⟨fun pos pins s σ H Q I h => (pk_cons (nm := nk) (kpos := kpos) he hs).run pos pins s σ H Q I ?_⟩
  obtain ⟨w, rfl, rfl, r, h⟩ := h
  refine run r h fun d s' G' v H' g r' a h' => ?_
  refine run r' h' fun ds s2 G2 vs H2 g2 r2 a2 h2 => ?_
  exact fin r2 h2 (.cons (a.mono g2) a2)
end
end DL
namespace DL
open PySem PySem.Spec L2
def methB (c m : Str) (K : PySem.W.Frag) : Bool := He.eqO (PySem.W.findIn K (.ref (He.ga K c)) m) (some (some (.ref (He.ma K (He.ga K c) m)))) && (PySem.W.isFn K (.ref (He.ma K (He.ga K c) m)) && PySem.W.keepIn K (.ref (He.ma K (He.ga K c) m)))
theorem methB_ok {K : PySem.W.Frag} {c m : Str} (h : methB c m K = true) : Meth K (He.ga K c) m (He.ma K (He.ga K c) m) := by
  obtain ⟨h1, h⟩ := He.ba h
  obtain ⟨h2, h3⟩ := He.ba h
  exact ⟨He.eqO_ok h1, h2, h3⟩
section
variable {K : PySem.W.Frag} {x q : Str} {st : Stmt} {g : Addr} {dvs : List V}
/-- n values are written; of the defaults those behind the first j fill up -/
theorem bd_any {ps : List Str} {fd : FuncData} (F : FunD K x q (defArgs st) (defBody st) (defScope st) dvs [] g fd) (n j : Nat) (hd : dvs ≠ []) (hn : n + (dvs.length - j) = ps.length)
    (h : ∀ (T : Addr) (kV doc pm : Value) (an : Option Addr) (cdv ct : Value) (us its : List Value), us.length = n → its.length = dvs.length →
      ∃ k, bindArgs (PySem.W.fnOf x q (defArgs st) (defBody st) (defScope st) (.ref T) kV doc pm an cdv ct) ⟨us, []⟩ = seqItems? (.ref T) >>= k ∧ k (some its.toArray) = pure (ps.zip (us ++ its.drop j))) : ∃ ds, Vals (dvs.drop j) ds ∧ Binds K fd ps ds := by
  obtain ⟨ds, h1, h2⟩ := F.binds1 n j hd hn h
  exact ⟨ds, h1, h2⟩
/-- one value is written and keywords ks; gg puts them and the defaults in the parameters' order -/
theorem bd_kw {ps : List Str} {fd : FuncData} (F : FunD K x q (defArgs st) (defBody st) (defScope st) dvs [] g fd) (n : Nat) (ks : List Str) (gg : {α : Type} → List α → List α → List α → List α) (hd : dvs ≠ [])
    (hrel : ∀ {vs ds zs : List V} {us its ws : List Value}, Vals vs us → Vals ds its → Vals zs ws → Vals (gg vs ds zs) (gg us its ws))
    (h : ∀ (T : Addr) (kV doc pm : Value) (an : Option Addr) (cdv ct : Value) (us its ws : List Value), us.length = n → its.length = dvs.length → ws.length = ks.length →
      ∃ k, bindArgs (PySem.W.fnOf x q (defArgs st) (defBody st) (defScope st) (.ref T) kV doc pm an cdv ct) ⟨us, ks.zip ws⟩ = seqItems? (.ref T) >>= k ∧ k (some its.toArray) = pure (ps.zip (gg us its ws))) :
    ∃ its : List Value, KBn K fd ps n ks (fun us ws => gg us its ws) (fun vs zs => gg vs dvs zs) := by
  obtain ⟨oc, od, dV, kV, doc, pm, an, cdv, ct, osl, rfl, lk, hcd, hD, hK⟩ := F.ex
  rcases hD with ⟨e, _⟩ | ⟨_, T, o, its, m, rfl, lT, oT, rT⟩
  · exact absurd e hd
  · refine ⟨its, ⟨fun s us ws X l1 l2 => ?_, fun r1 r2 => hrel r1 rT r2⟩⟩
    obtain ⟨k, e1, e2⟩ := h T kV doc pm an cdv ct us its ws l1 rT.length.symm l2
    refine BindsTo.of_looks fun M => ?_
    rw [e1]
    exact looks_items X lT oT (by rw [e2]; exact .now)
end
section
variable {P : Program} {w : World} {K : PySem.W.Frag} {mg : Str → Option Value} {base : Heap} {x q : Str} {st : Stmt} {dvs : List V} {g : Addr} {dd : List D}
theorem vals_take {K : PySem.W.Frag} : ∀ (j : Nat) {vs : List V} {us : List Value}, Vals vs us → Vals (vs.take j) (us.take j)
  | 0, _, _, _ => by simpa using Paired.nil
  | _ + 1, _, _, .nil => .nil
  | j + 1, _, _, .cons a r => .cons a (vals_take (K := K) j r)
theorem kw_mid {ps : List Str} {fd : FuncData} (F : FunD K x q (defArgs st) (defBody st) (defScope st) dvs [] g fd) (n j : Nat) (ks : List Str) (hd : dvs ≠ []) (hD : ∀ G, Reps K G (dvs.take j) dd)
    (h : ∀ (T : Addr) (kV doc pm : Value) (an : Option Addr) (cdv ct : Value) (us its ws : List Value), us.length = n → its.length = dvs.length → ws.length = ks.length →
      ∃ k, bindArgs (PySem.W.fnOf x q (defArgs st) (defBody st) (defScope st) (.ref T) kV doc pm an cdv ct) ⟨us, ks.zip ws⟩ = seqItems? (.ref T) >>= k ∧ k (some its.toArray) = pure (ps.zip (us ++ (its.take j ++ ws)))) :
    ∃ gv gV, KBn K fd ps n ks gv gV ∧ ∀ G vs zs ds es, Reps K G vs ds → Reps K G zs es → vs.length = n → zs.length = ks.length → Reps K G (gV vs zs) (ds ++ (dd ++ es)) := by
  obtain ⟨its, hk⟩ := bd_kw F n ks (fun {α} us its ws => us ++ (its.take j ++ ws)) hd (fun a b c => a.append ((vals_take (K := K) j b).append c)) h
  exact ⟨_, _, hk, fun G vs zs ds es r1 r2 _ _ => r1.append ((hD G).append r2)⟩
theorem knW_ok {N ps : List Str} {k : Nat} {m : MS} (F : FdW K x q st dvs g) (Sc : FnScope N ps (defScope st)) (n j : Nat) (ks : List Str) (hd : dvs ≠ []) (hD : ∀ G, Reps K G (dvs.take j) dd)
    (h : ∀ (T : Addr) (kV doc pm : Value) (an : Option Addr) (cdv ct : Value) (us its ws : List Value), us.length = n → its.length = dvs.length → ws.length = ks.length →
      ∃ k, bindArgs (PySem.W.fnOf x q (defArgs st) (defBody st) (defScope st) (.ref T) kV doc pm an cdv ct) ⟨us, ks.zip ws⟩ = seqItems? (.ref T) >>= k ∧ k (some its.toArray) = pure (ps.zip (us ++ (its.take j ++ ws))))
    (hb : ∀ (cdv : Value) (A : Around) (outer : List Env) (s : Shared) (H : Hp) (E : XK), Room k (A.deeper (PyProof.Rows.envOfC q (defScope st) s.heap.objs.size g cdv)) →
      L2N.Takes (cxOf (L2N.CX P w) P w K mg base N q (defScope st) g cdv A outer s H E) (fun c d _ H => E c d H) → PassesOwn (model P w) (A.deeper (PyProof.Rows.envOfC q (defScope st) s.heap.objs.size g cdv)) (PyProof.Rows.envOfC q (defScope st) s.heap.objs.size g cdv) (cxOf (L2N.CX P w) P w K mg base N q (defScope st) g cdv A outer s H E).xe →
      (A.deeper (PyProof.Rows.envOfC q (defScope st) s.heap.objs.size g cdv)).units + 64 < cLine → (A.deeper (PyProof.Rows.envOfC q (defScope st) s.heap.objs.size g cdv)).units + 1 < cLine →
      JSs (cxOf (L2N.CX P w) P w K mg base N q (defScope st) g cdv A outer s H E) (fun c d _ H => E c d H) (defBody st) m) :
    KnW P w K mg base g (k + 1) ps (fnM N.length m) n ks (fun ds es => ds ++ (dd ++ es)) := by
  obtain ⟨fd, F⟩ := F
  obtain ⟨gv, gV, h1, h2⟩ := kw_mid F n j ks hd hD h
  refine ⟨fd, gv, gV, fn_ok F Sc fun cdv A outer s H E hr => ?_, h1, h2⟩
  exact hb cdv A outer s H E hr (L2N.takes_of rfl rfl rfl rfl) (passes_of (X := cxOf (L2N.CX P w) P w K mg base N q (defScope st) g cdv A outer s H E) rfl) (by have := hr.un; omega) (by have := hr.un; omega)
end
end DL
namespace DL
open PySem PySem.Spec L2
theorem io_floordiv : IntOp "floordiv" := ⟨⟨.builtin "int.__floordiv__", by rw [builtinLookup_eq_fast]; kernel_rfl, by decide +kernel⟩, ⟨some (.builtin "int.__rfloordiv__"), by rw [builtinLookup_eq_fast]; kernel_rfl⟩⟩
section
variable {X : Cx} {W : WX} {k : Nat} {ps : List Str} {fn : Fn} {c nm rn : Str} {a b : Expr} {ma mb : ME} {pos : Pos}
/-- n op a, by a's reflected method -/
def mOpR (c : Str) (fn : Fn) (a b : ME) : ME := bnd a fun x => bnd b fun y s => match x, insAt c s y with
  | .int _, some _ => outR s (fn [y, x] s.st)
  | _, _ => .stuck
end
end DL
namespace DL
open PySem PySem.Spec L2
section
variable {prog : Program} {w : World} {A : Around} {E : Value → Shared → Prop} {s : Shared} {K : PySem.W.Frag} {M : Model} {h : Heap} {C f a : Addr} {oa : Obj} {da : Option Obj}
/-- what a built-in type has under the operator's two names -/
def OpT (nm : String) : Prop := ∀ t ∈ tysL, (∃ v, builtinLookup t (PySem.dunder nm) = some v) ∧ ∃ v, builtinLookup t (PySem.dunderR nm) = some v
theorem look_ty {t : String} {name : Str} {r : Option Value} (e : builtinLookup t name = some r) : PySem.W.Looks M h (typeLookup (.type t) name) r := PySem.W.Looks.of_pure (by rw [typeLookup_type, e])
theorem fills_ty {nm t : String} {v r : Option Value} (h1 : builtinLookup t (PySem.dunder nm) = some v) (h2 : builtinLookup t (PySem.dunderR nm) = some r) : PySem.W.Looks M h (fillsNumberSlot (.type t) nm) ((v.isSome && !isSeqSlot v) || (r.isSome && !isSeqSlot r)) := by
  unfold fillsNumberSlot
  exact PySem.W.Looks.andThen (look_ty h1) (PySem.W.Looks.andThen (look_ty h2) (PySem.W.Looks.of_pure rfl))
theorem bin_ownT {op : Operator} {vb : Value} {t : String} {r0 : Option Value} {Q : Value → Shared → Prop} (X : K.In s.heap) (J : PySem.W.InstAt s.heap a oa C da) (o : Own K C f (PySem.dunder op.info.2)) (io : OpT op.info.2) (ht : t ∈ tysL) (ty : PySem.W.Looks (model prog w) s.heap (typeOf vb) (.type t)) (hr : PySem.W.findIn K (.ref C) (PySem.dunderR op.info.2) = some r0) (hn : r0 = none ∨ ∃ g, r0 = some (.ref g))
    (hcall : wpAny (model prog w) A (call (.ref f) [.ref a, vb]) (fun v s' => v ≠ .notImplemented ∧ Q v s') E s) : wpAny (model prog w) A (binaryOp op (.ref a) vb) Q E s := by
  unfold binaryOp
  refine wpAny_holding ?_
  generalize hop : op.info = oi at o io hr ⊢
  obtain ⟨sym, nm⟩ := oi
  dsimp only at o io hr ⊢
  refine wpAny_bind ?_
  unfold binaryOp1
  have ne : (Value.ref C == Value.type t) = false := by simp
  have su := PySem.W.looks_subIn (M := model prog w) X (sub_ty (K := K) ht C)
  obtain ⟨⟨v1, h1⟩, ⟨rv, h2⟩⟩ := io t ht
  have fl := fills_ty (M := model prog w) (h := s.heap) h1 h2
  refine wpAny_bind (J.type.here (wpAny_bind (ty.here (wpAny_bind ((fills_own X o).here ?_)))))
  simp only [ne, Bool.false_eq_true, if_false]
  refine wpAny_bind (fl.here ?_)
  cases hfl : ((v1.isSome && !isSeqSlot v1) || (rv.isSome && !isSeqSlot rv)) with
  | true =>
    simp only [Bool.and_self, if_true]
    refine wpAny_bind (su.here ?_)
    simp only [Bool.false_eq_true, if_false, pure_bind, Bool.not_false, Bool.and_self, if_true]
    refine wpAny_bind ((py_own X o hr hn).here ?_)
    simp only [if_true]
    refine wpAny_bind (wpAny_of_eq (show numberSlotInPython (.type t) nm = pure false from rfl) ?_)
    simp only [Bool.not_false, if_true]
    refine wpAny_bind ((look_ty h2).here ?_)
    refine wpAny_bind (tryMethod_own X J o (wpAny_mono hcall (fun v s' q => ⟨q.1, ?_⟩) fun _ _ e => e))
    exact wpAny_pure (wpAny_pure q.2)
  | false =>
    simp only [Bool.and_false, Bool.false_eq_true, if_false, pure_bind, Bool.false_and, if_true]
    refine wpAny_bind (tryMethod_own X J o (wpAny_mono hcall (fun v s' q => ⟨q.1, ?_⟩) fun _ _ e => e))
    exact wpAny_pure (wpAny_pure q.2)
end
def opTB (nm : String) : Bool := tysL.all fun t => (builtinLookup t (PySem.dunder nm)).isSome && (builtinLookup t (PySem.dunderR nm)).isSome
theorem opT_ok {nm : String} (h : opTB nm = true) : OpT nm := fun t ht => by
  have z := List.all_eq_true.mp h t ht
  rw [Bool.and_eq_true] at z
  exact ⟨Option.isSome_iff_exists.mp z.1, Option.isSome_iff_exists.mp z.2⟩
theorem ot_rshift : OpT "rshift" := opT_ok (by unfold opTB; simp only [builtinLookup_eq_fast]; kernel_rfl)
theorem ot_lshift : OpT "lshift" := opT_ok (by unfold opTB; simp only [builtinLookup_eq_fast]; kernel_rfl)
theorem ot_floordiv : OpT "floordiv" := opT_ok (by unfold opTB; simp only [builtinLookup_eq_fast]; kernel_rfl)
def tOpAn (K : PySem.W.Frag) (C : Addr) (sp : Sp) (E : L2.St → XK) (ta tb : TE) : TE := fun σ H Q => ta σ H fun x H1 => tb σ H1 fun y H2 => ∃ i di fi t, x = .ref i ∧ t ∈ tysL ∧ TyX K H2 y (.type t) ∧ H2 i = some (.ins C di fi) ∧ sp [x, y] H2 Q (E σ)
def mOpAn (c : Str) (fn : Fn) (a b : ME) : ME := bnd a fun x => bnd b fun y s => match insAt c s x, tyD y with
  | some _, some _ => outR s (fn [x, y] s.st)
  | _, _ => .stuck
section
variable {X : Cx} {W : WX} {c nm : Str} {k : Nat} {ps : List Str} {fn : Fn} {a b : Expr} {ma mb : ME} {pos : Pos}
theorem je_opAn {op : Operator} (o : Own X.K (He.ga X.K c) (He.ma X.K (He.ga X.K c) nm) nm) (hnm : nm = PySem.dunder op.info.2) (io : OpT op.info.2) {rn : Str} (nr : NoR X.K c rn) (hrn : rn = PySem.dunderR op.info.2) (F : KnM X.prog X.w X.K X.mg X.base c nm k ps fn) (hr : Room k X.A) (tk : L2N.Takes X W) (ha : JE X W a ma) (hb' : JE X W b mb) (hl : 2 = ps.length := by rfl) : JE X W (.BinOp a op b pos) (mOpAn c fn ma mb) := by
  subst hnm
  subst hrn
  obtain ⟨fd, F, hb⟩ := F
  obtain ⟨r0, n1, n2⟩ := nr
  have pe : PE X (.BinOp a op b pos) (tOpAn X.K (He.ga X.K c) (spF X.K ps.length fn) (WE W) (tG X.K X.pn W (AR X.K) ma) (tG X.K X.pn W (AR X.K) mb)) := by
    refine ⟨fun pins s σ H Q J h => wpAny_BinOp (binT ha hb' J h fun v u s2 x y H2 J2 rx ry q => ?_)⟩
    obtain ⟨i, di, fi, t, rfl, ht, ty, e1, q⟩ := q
    cases rx
    obtain ⟨o1, I1⟩ := inst_of J2 e1
    refine bin_ownT J2.kIn I1 o io ht (ty_look J2 ry ty) n1 n2 (thn (run_fnSD (E := WE W) (dvs := []) F hr hb Paired.nil (L2N.passAt tk σ) J2 (vs := [.ref i, y]) (.cons rfl (.cons ry .nil)) q) fun z s3 hz => ?_)
    obtain ⟨v, H3, J3, rv, qv⟩ := hz
    exact ⟨relV_ne rv, v, H3, J3, rv, qv⟩
  refine PE.imp pe fun σ H Q h => ?_
  obtain ⟨w, rfl, rfl, r, h⟩ := h
  refine run r h fun x s1 G1 vx H1 g1 r1 p1 h1 => ?_
  refine run r1 h1 fun y s2 G2 vy H2 g2 r2 p2 h2 => ?_
  cases hi : insAt c s2 x with
  | none => simp only [hi] at h2; exact h2.elim
  | some qx =>
    cases hy : tyD y with
    | none => simp only [hi, hy] at h2; exact h2.elim
    | some t =>
      simp only [hi, hy] at h2
      have p1 := p1.mono g2
      obtain ⟨i, di, fi, rfl, _, e1, _⟩ := insAt_rel (w := { w with G := G2, H := H2, s := s2 }) (fs := qx.2) (n := qx.1) r2 p1 hi
      exact ⟨i, di, fi, t, rfl, tyD_in hy, tyx_of r2 (.inl p2) hy, e1, call_run (W := W) (fn := fn) (w := { w with G := G2, H := H2, s := s2 }) r2 (.cons p1 (.cons p2 .nil)) hl h2⟩
end
end DL
namespace DL
open PySem PySem.Spec L2
section
variable {X : Cx} {pins : List (Addr × Obj)} {σ : L2.St} {H : Hp} {s : Shared}
theorem run_fnRA {CX : CXT} {k : Nat} {f : Addr} {sp : Sp} {E : XK} {Q : VK} {us : List Value} {vs : List V} (F : FnR X.prog X.w X.K X.mg X.base CX k f sp) (hr : Room k X.A) (hx : PassesAt CX X σ E) (I : Inv X pins σ H s) (r : Vals vs us) (h : sp vs H Q E) :
    codeAny (model X.prog X.w) X.A (.call (.ref f) ⟨us, []⟩) (fun r s' => match r with | .ok (.ret v) => EP X pins σ Q v s' | .ok _ => False | .error e => X.xe e s') s := by
  refine codeAny_mono (F X.A X.stack s H us vs Q E hr I.env0 r h) fun r s' hq => ?_
  cases r with
  | error e => exact hx pins H s e s' I hq
  | ok fl =>
    cases fl with
    | ret u => exact I.after hq
    | next => exact False.elim hq
    | brk => exact False.elim hq
    | cont => exact False.elim hq
end
section
variable {X : Cx} {W : WX} {CX : CXT} {k : Nat} {C g p : Addr} {mc : Value} {sp : Sp} {E : L2.St → XK} {o a fe : Expr} {es : List Expr} {nm c : Str} {pos apos : Pos} {ta tf : TE} {t : TA} {pl : Sem Bool} {ps : List Str} {fn : Fn} {dd : List D} {mf : ME} {mm : MA}
def tCMethS (C : Addr) (sp : Sp) (E : L2.St → XK) (ta : TE) (t : TA) : TE := fun σ H Q => ta σ H fun x H1 => x = .ref C ∧ t σ H1 fun vs H2 => sp (.ref C :: vs) H2 Q (E σ)
theorem pe_cmethS (he : PE X o ta) (r : ClX.CRead X.K C mc) (c : ClX.CMet X.K C mc nm p g) (F : FnR X.prog X.w X.K X.mg X.base CX k g sp) (hr : Room k X.A) (hx : ∀ σ, PassesAt CX X σ (E σ)) (ha : PA X (a :: es) t)
    (hst : starEach (a :: es) X.env = (false, eval a X.env) :: starEach es X.env := by rfl) (hpl : (backTo pos (starEach es X.env)).any (·.1) = false := by rfl)
    (ht : eval (.Call (.Attribute o nm apos) (a :: es) [] pos) X.env = (do
      let ov ← eval o X.env
      standAt apos.atName
      let (f, first) ← holding [ov] (getMethod ov nm pl)
      callWith pos f first (backTo pos (starEach (a :: es) X.env)) (backToKw pos (keywordEach [] X.env))) := by rfl) :
    PE X (.Call (.Attribute o nm apos) (a :: es) [] pos) (tCMethS C sp E ta t) := by
  refine ⟨fun pins s σ H Q I h => ?_⟩
  refine PySem.W.methodCall_KW (pl := pl) (thn (he.run pins s σ H _ I h) fun u s1 ⟨x, H1, I1, rx, ex, q⟩ => ?_) ht
  subst ex
  obtain rfl : u = Value.ref C := rx
  refine ClX.getmethcm_ok I1 r c fun s2 I2 => ?_
  refine ClX.callwith_cm I2 (ClX.base_none I1 (Nat.le_refl _)) c.fi (thn (ha.run pos _ s2 σ H1 _ I2 q) fun us s3 ⟨vs, H2, I3, rv, q2⟩ => ⟨⟨ClX.pin_at I3, I3.kIn⟩, ?_⟩) hst hpl
  exact thn (wpAny_call (PySem.W.method_call (ClX.pin_at I3) (run_fnRA (us := .ref C :: us) (vs := .ref C :: vs) F hr (hx σ) I3 (.cons rfl rv) q2))) fun _ _ y => ClX.unpinE y
def tSMethS (C : Addr) (sp : Sp) (E : L2.St → XK) (ta : TE) (t : TA) : TE := fun σ H Q => ta σ H fun x H1 => x = .ref C ∧ t σ H1 fun vs H2 => sp vs H2 Q (E σ)
theorem pe_smethS (he : PE X o ta) (r : ClX.CRead X.K C mc) (c : SMet X.K C mc nm p g) (F : FnR X.prog X.w X.K X.mg X.base CX k g sp) (hr : Room k X.A) (hx : ∀ σ, PassesAt CX X σ (E σ)) (ha : PA X (a :: es) t)
    (hst : starEach (a :: es) X.env = (false, eval a X.env) :: starEach es X.env := by rfl) (hpl : (backTo pos (starEach es X.env)).any (·.1) = false := by rfl)
    (ht : eval (.Call (.Attribute o nm apos) (a :: es) [] pos) X.env = (do
      let ov ← eval o X.env
      standAt apos.atName
      let (f, first) ← holding [ov] (getMethod ov nm pl)
      callWith pos f first (backTo pos (starEach (a :: es) X.env)) (backToKw pos (keywordEach [] X.env))) := by rfl) :
    PE X (.Call (.Attribute o nm apos) (a :: es) [] pos) (tSMethS C sp E ta t) := by
  refine ⟨fun pins s σ H Q I h => ?_⟩
  refine PySem.W.methodCall_KW (pl := pl) (thn (he.run pins s σ H _ I h) fun u s1 ⟨x, H1, I1, rx, ex, q⟩ => ?_) ht
  subst ex
  obtain rfl : u = Value.ref C := rx
  obtain ⟨rest, hp⟩ := c.rc
  refine PySem.W.method_cls I1.kIn r.ga (PySem.W.cls_bind I1.kIn r.rd c.at_ (wpAny_call (PySem.W.sm_get (s := { s1 with toks := s1.toks + 1 }) I1.kIn hp (PySem.W.handed_on rfl ?_))))
  have I2 := I1.tok (s1.toks + 1)
  refine PySem.W.callWith_K (h₀ := X.base) (first := []) I.ok.mod.kin c.kp (thn (ha.run pos _ _ σ H1 _ I2 q) fun us s3 ⟨vs, H2, I3, rv, q2⟩ => ⟨I3.kIn, ?_⟩) hst hpl
  exact wpAny_call (run_fnRA (us := us) (vs := vs) F hr (hx σ) I3 rv q2)
def tCallOS (X : Cx) (C : Addr) (sp : Sp) (E : L2.St → XK) (tf : TE) (t : TA) : TE := fun σ H Q => tf σ H fun y H1 => ∃ a, y = V.ref a ∧ t σ H1 fun vs H2 => StX.InsC X H2 a C ∧ sp (V.ref a :: vs) H2 Q (E σ)
theorem pe_callOS (hf : PE X fe tf) (c : StX.CallO X.K C g) (F : FnR X.prog X.w X.K X.mg X.base CX k g sp) (hr : Room k X.A) (hx : ∀ σ, PassesAt CX X σ (E σ)) (ha : PA X (a :: es) t)
    (ht : eval (.Call fe (a :: es) [] pos) X.env = (do callWith pos (← eval fe X.env) [] (backTo pos (starEach (a :: es) X.env)) (backToKw pos (keywordEach [] X.env))) := by rfl)
    (he : starEach (a :: es) X.env = (false, eval a X.env) :: starEach es X.env := by rfl) (hpl : (backTo pos (starEach es X.env)).any (·.1) = false := by rfl) : PE X (.Call fe (a :: es) [] pos) (tCallOS X C sp E tf t) := by
  refine ⟨fun pins s σ H Q I h => ?_⟩
  refine PyProof.Rows.Call_ (thn (hf.run pins s σ H _ I h) fun u s1 ⟨y, H1, I1, ry, b, ey, q⟩ => ?_) ht
  subst ey
  obtain rfl : u = Value.ref b := ry
  refine StX.callO_with (thn (ha.run pos pins s1 σ H1 _ I1 q) fun us s2 ⟨vs, H2, I2, r, hi, q2⟩ => ?_) he hpl
  obtain ⟨ox, od, J, hd⟩ := StX.insC_at I2 hi
  exact ⟨⟨C, ox, od, J, hd⟩, wpAny_call (PySem.W.kco_code I2.kIn J hd c.at_ c.fn c.fi (run_fnRA (us := .ref b :: us) (vs := .ref b :: vs) F hr (hx σ) I2 (.cons rfl r) q2))⟩
def mCMx (c : Str) (fn : Fn) (mm : MA) : ME := bnd mm fun ds s => outR s (fn (.cla c :: ds) s.st)
theorem je_cmX {q : Pos} (cr : ClX.CRead X.K (He.ga X.K c) mc) (cm : ClX.CMet X.K (He.ga X.K c) mc nm p g) (F : KnD X.prog X.w X.K X.mg X.base g k ps fn []) (hr : Room k X.A) (tk : L2N.Takes X W) (hg : Gl X c) (hm : X.mg c = some (.ref (He.ga X.K c))) (ha : JA X W (a :: es) mm) (hl : (a :: es).length + 1 = ps.length := by rfl) (hdb : (c == ("__debug__" : Str)) = false := by decide)
    (he : starEach (a :: es) X.env = (false, eval a X.env) :: starEach es X.env := by rfl) (hpl : (backTo pos (starEach es X.env)).any (·.1) = false := by rfl)
    (ht : eval (.Call (.Attribute (.Name c q) nm apos) (a :: es) [] pos) X.env = (do
      let ov ← eval (.Name c q) X.env
      standAt apos.atName
      let (f, first) ← holding [ov] (getMethod ov nm pl)
      callWith pos f first (backTo pos (starEach (a :: es) X.env)) (backToKw pos (keywordEach [] X.env))) := by rfl) : JE X W (.Call (.Attribute (.Name c q) nm apos) (a :: es) [] pos) (mCMx c fn mm) := by
  obtain ⟨fd, dvs, ds, F, hb, hd, hD⟩ := F
  have e0 : dvs = [] := by cases hD ⟨fun _ => none, []⟩; rfl
  subst e0
  refine PE.imp (pe_cmethS (E := WE W) (pe_glob (v := .ref (He.ga X.K c)) hg hm rfl hdb) cr cm (F.raw hb hd) hr (fun σ => L2N.passAt tk σ) ha.pa he hpl ht) fun σ H Q h => ?_
  obtain ⟨w, rfl, rfl, r, h⟩ := h
  refine ⟨rfl, ?_⟩
  refine run' r h fun as s2 G2 vs H2 hm2 g2 r2 q2 h2 => ?_
  simp only [List.append_nil]
  exact call_run (W := W) (fn := fn) (w := { w with G := G2, H := H2, s := s2 }) r2 (.cons (.cla c) q2) (by rw [List.length_cons, q2.length, ha.len _ _ _ hm2, ← hl]) h2
def mSMx (fn : Fn) (dd : List D) (mm : MA) : ME := bnd mm fun ds s => outR s (fn (ds ++ dd) s.st)
theorem je_smX {q : Pos} (cr : ClX.CRead X.K (He.ga X.K c) mc) (cm : SMet X.K (He.ga X.K c) mc nm p g) (F : KnD X.prog X.w X.K X.mg X.base g k ps fn dd) (hr : Room k X.A) (tk : L2N.Takes X W) (hg : Gl X c) (hm : X.mg c = some (.ref (He.ga X.K c))) (ha : JA X W (a :: es) mm) (hl : (a :: es).length + dd.length = ps.length := by rfl) (hdb : (c == ("__debug__" : Str)) = false := by decide)
    (he : starEach (a :: es) X.env = (false, eval a X.env) :: starEach es X.env := by rfl) (hpl : (backTo pos (starEach es X.env)).any (·.1) = false := by rfl)
    (ht : eval (.Call (.Attribute (.Name c q) nm apos) (a :: es) [] pos) X.env = (do
      let ov ← eval (.Name c q) X.env
      standAt apos.atName
      let (f, first) ← holding [ov] (getMethod ov nm pl)
      callWith pos f first (backTo pos (starEach (a :: es) X.env)) (backToKw pos (keywordEach [] X.env))) := by rfl) : JE X W (.Call (.Attribute (.Name c q) nm apos) (a :: es) [] pos) (mSMx fn dd mm) := by
  obtain ⟨fd, dvs, ds, F, hb, hd, hD⟩ := F
  refine PE.imp (pe_smethS (E := WE W) (pe_glob (v := .ref (He.ga X.K c)) hg hm rfl hdb) cr cm (F.raw hb hd) hr (fun σ => L2N.passAt tk σ) ha.pa he hpl ht) fun σ H Q h => ?_
  obtain ⟨w, rfl, rfl, r, h⟩ := h
  refine ⟨rfl, ?_⟩
  refine run' r h fun as s2 G2 vs H2 hm2 g2 r2 q2 h2 => ?_
  have hl2 := (hD G2).length
  exact call_run (W := W) (fn := fn) (w := { w with G := G2, H := H2, s := s2 }) r2 (q2.append (hD G2)) (by rw [List.length_append, q2.length, ha.len _ _ _ hm2, hl2, ← hl]) h2
def mCallOx (c : Str) (fn : Fn) (mf : ME) (mm : MA) : ME := bnd mf fun x => match x with
  | .loc n => bnd mm fun ds s => (match insAt c s (.loc n) with
    | some _ => outR s (fn (.loc n :: ds) s.st)
    | none => .stuck)
  | _ => stk
theorem je_callOX (o : StX.CallO X.K (He.ga X.K c) g) (F : KnD X.prog X.w X.K X.mg X.base g k ps fn []) (hr : Room k X.A) (tk : L2N.Takes X W) (hf : JE X W fe mf) (ha : JA X W (a :: es) mm) (hl : (a :: es).length + 1 = ps.length := by rfl)
    (ht : eval (.Call fe (a :: es) [] pos) X.env = (do callWith pos (← eval fe X.env) [] (backTo pos (starEach (a :: es) X.env)) (backToKw pos (keywordEach [] X.env))) := by rfl)
    (he : starEach (a :: es) X.env = (false, eval a X.env) :: starEach es X.env := by rfl) (hpl : (backTo pos (starEach es X.env)).any (·.1) = false := by rfl) : JE X W (.Call fe (a :: es) [] pos) (mCallOx c fn mf mm) := by
  obtain ⟨fd, dvs, ds, F, hb, hd, hD⟩ := F
  have e0 : dvs = [] := by cases hD ⟨fun _ => none, []⟩; rfl
  subst e0
  refine PE.imp (pe_callOS (E := WE W) hf o (F.raw hb hd) hr (fun σ => L2N.passAt tk σ) ha.pa ht he hpl) fun σ H Q h => ?_
  obtain ⟨w, rfl, rfl, r, h⟩ := h
  refine run r h fun x s1 G1 vx H1 g1 r1 p1 h1 => ?_
  cases x with
  | loc n =>
    obtain ⟨ax, rfl⟩ : ∃ a, vx = .ref a := by cases p1; exact ⟨_, rfl⟩
    refine ⟨ax, rfl, ?_⟩
    refine run' r1 h1 fun as s2 G2 vs H2 hm2 g2 r2 q2 h2 => ?_
    cases hi : insAt c s2 (.loc n) with
    | none => simp only [hi] at h2; exact h2.elim
    | some qx =>
      simp only [hi] at h2
      have p1 := p1.mono g2
      obtain ⟨i, di, fi, e0, _, e1, _⟩ := insAt_rel (w := { w with G := G2, H := H2, s := s2 }) (fs := qx.2) (n := qx.1) r2 p1 hi
      cases e0
      refine ⟨.inr ⟨di, fi, e1⟩, ?_⟩
      simp only [List.append_nil]
      exact call_run (W := W) (fn := fn) (w := { w with G := G2, H := H2, s := s2 }) r2 (.cons p1 q2) (by rw [List.length_cons, q2.length, ha.len _ _ _ hm2, ← hl]) h2
  | _ => exact h1.elim
end
end DL
namespace DL
open PySem PySem.Spec PyProof.Rows L2
/-- the items of a tuple -/
def tpD (d : D) : Option (List D) := if isTup d then itD d else none
end DL
namespace DL
open PySem PySem.Spec PyProof.Rows L2
theorem itzT2_r {K : PySem.W.Frag} {G : Gh} {a b : Addr} {vs us : List V} {xs ys : List D} (h : SqT K G.F a vs) (h' : SqT K G.F b us) (rs : Reps K G vs xs) (rs' : Reps K G us ys) : ItR K (RZ.ItzT K a b) G (zip2D xs ys) where
  go := fun pn w r g i hi => by
    rw [zip2D_len, ← rs.length, ← rs'.length] at hi
    have e := fun b o q => r.ex b o (g.f b o q)
    have l1 : i < vs.length := by omega
    have l2 : i < us.length := by omega
    exact ⟨vs, us, vs[i], us[i], sqT_mono e h, sqT_mono e h', List.getElem?_eq_getElem l1, List.getElem?_eq_getElem l2⟩
  yld := fun pn w r g i d x H' hd hy => by
    have e := fun b o q => r.ex b o (g.f b o q)
    obtain ⟨T, x, y, rfl, hT, rfl, y1, y2⟩ := hy
    obtain ⟨d1, d2, q1, q2, rfl⟩ := zip2D_get hd
    obtain ⟨v1, k1, p1⟩ := rs.get q1
    obtain ⟨v2, k2, p2⟩ := rs'.get q2
    have z1 := y1 vs (sqT_mono e h)
    have z2 := y2 us (sqT_mono e h')
    rw [k1] at z1
    rw [k2] at z2
    cases z1; cases z2
    have hn := r.noF hT
    have gg := g.trans (gle_upd (o := .tup [x, y]) hn)
    exact ⟨_, gle_upd hn, r.new hT, .tup upd_same (.cons (p1.mono gg) (.cons (p2.mono gg) .nil))⟩
  stop := fun pn w r g i hi => by
    rw [zip2D_len, ← rs.length, ← rs'.length] at hi
    have e := fun b o q => r.ex b o (g.f b o q)
    exact ⟨vs, us, sqT_mono e h, sqT_mono e h', by omega⟩
def mZipB (m : MA) : MA := bnd m fun ds s => match ds with
  | [a, b] => (match lsD a, lsD b with
    | some x, some y => .ok (zip2D x y) s
    | _, _ => (match tpD a, tpD b with
      | some x, some y => .ok (zip2D x y) s
      | _, _ => .stuck))
  | _ => .stuck
theorem ji_zipB {X : Cx} {W : WX} {e e2 : Expr} {m : MA} {p pos tpos : Pos} {elts : List Expr} {kk : Nat} (hg : Gl X "zip") (hm : X.mg "zip" = none) (h : JA X W [e, e2] m)
    (hs : starEach [e, e2] X.env = (false, eval e X.env) :: starEach [e2] X.env := by rfl) (hpl : (backTo pos (starEach [e2] X.env)).any (·.1) = false := by rfl) : JI X W (.Tuple elts kk tpos) (.Call (.Name "zip" p) [e, e2] [] pos) (mZipB m) := by
  refine PI.imp (RZ.pi_zipA hg hm h.pa hs hpl) fun σ H Q h => ?_
  obtain ⟨w, rfl, rfl, r, h⟩ := h
  refine run' r h fun ds s' G' vs H' hm2 g r' q h' => ?_
  split at h'
  · rename_i a b
    split at h'
    · rename_i x y hx hy
      match vs, q with
      | [_, _], .cons p1 (.cons p2 .nil) =>
        obtain ⟨ad1, v1, rfl, k1, j1⟩ := rep_ls p1 hx
        obtain ⟨ad2, v2, rfl, k2, j2⟩ := rep_ls p2 hy
        exact ⟨_, _, _, _, rfl, .inl ⟨sqL_mono r'.ex k1, sqL_mono r'.ex k2, fin r' h' (itz2_r k1 k2 j1 j2)⟩⟩
    · split at h'
      · rename_i x y hx hy
        match vs, q with
        | [_, _], .cons p1 (.cons p2 .nil) =>
          unfold tpD at hx hy
          split at hx
          · rename_i t1
            split at hy
            · rename_i t2
              obtain ⟨ad1, v1, rfl, k1, j1⟩ := rep_st p1 hx t1
              obtain ⟨ad2, v2, rfl, k2, j2⟩ := rep_st p2 hy t2
              exact ⟨_, _, _, _, rfl, .inr ⟨sqT_mono r'.ex k1, sqT_mono r'.ex k2, fin r' h' (itzT2_r k1 k2 j1 j2)⟩⟩
            · cases hy
          · cases hx
      · exact h'.elim
  · exact h'.elim
end DL
namespace DL
open PySem PySem.Spec L2
def iDivN := intF fun i j => if j ≠ 0 ∧ j.natAbs < 1073741824 then some (.int (i.fdiv j)) else none
def jMod := intF fun i j => if j ≠ 0 then some (.int (i.fmod j)) else none
def jDiv : D → D → Option D := fun d e => (iDiv d e).orElse fun _ => iDivN d e
section
variable {K : PySem.W.Frag}
theorem k_divN : R2Ok K (rI CDivN fun i j => .int (i.fdiv j)) iDivN := r2_I fun i j z h => by
  split at h
  · rename_i c; cases h; exact ⟨c, fun _ => .int _⟩
  · cases h
theorem k_modN : R2Ok K (rI (fun _ j => j ≠ 0) fun i j => .int (i.fmod j)) jMod := r2_I fun i j z h => by
  split at h
  · rename_i c; cases h; exact ⟨c, fun _ => .int _⟩
  · cases h
def rDivX : R2 := fun x y H Q => (rI CDivW fun i j => .int (i / j)) x y H Q ∨ (rI CDivN fun i j => .int (i.fdiv j)) x y H Q
theorem op_divX {X : Cx} : OpR X (binaryOp .FloorDiv) rDivX := op_fdivW.or op_fdivN
theorem k_divX : R2Ok K rDivX jDiv := k_div.or k_divN
end
theorem jMod_int {i j : Int} (h : j ≠ 0) : jMod (.int i) (.int j) = some (.int (i.fmod j)) := by simp [jMod, intF, h]
theorem jDiv_int {i j : Int} (h : j ≠ 0) (hb : j.natAbs < 1073741824 ∨ 0 < j ∧ bits j < 9000) : jDiv (.int i) (.int j) = some (.int (i.fdiv j)) := by
  by_cases c : 0 < j ∧ bits j < 9000
  · have e : i / j = i.fdiv j := (Int.fdiv_eq_ediv_of_nonneg i (by omega)).symm
    simp [jDiv, iDiv, intF, c, e]
  · have d : j.natAbs < 1073741824 := by rcases hb with d | d; exact d; exact (c d).elim
    have n : iDiv (.int i) (.int j) = none := by
      show (if 0 < j ∧ bits j < 9000 then some (D.int (i / j)) else none) = none
      rw [if_neg c]
    unfold jDiv
    rw [n]
    simp [iDivN, intF, h, d]
end DL
namespace K15
open PySem PySem.Spec L2 DL
noncomputable section
def top (i : Nat) : Stmt := PySem.Challenge.pw_everyname_k15_sizes_refuse_what_is_wrong.main.body.getD i (.Pass ⟨0, 0, 0, 0⟩)
abbrev LL : List Str := ["BadValue", "NotExact", "EmptySpan", "NoBound"]
abbrev SS : List Str := ["EverynameError"]
def lam__law_cases (k : Nat) : Lam := cloLam (("_law_cases" : Str) ++ ".<locals>." ++ "<lambda>") (defBody (top 43)) k
def m_joined_signs : MS := (mSeq (mN (mOwn 1 (mLst mNil)))
  (mSeq (mN (mFor (mIt (mVar 0)) (gTp 3 (gsCons (gNm 2) (gsCons (gNm 3) (gsCons (gNm 4) gsNil)))) (mIfS (mAndT (mBl (mBin iGt (mUn fLen (mLook 1)) (mC (.int 0)))) (mBl (mBin fEq (mBin ixD (mIxN 1 (mUn iNeg (mC (.int 1)))) (mC (.int 2))) (mVar 4)))) (mSetIx 1 (mUn iNeg (mC (.int 1))) (mTup (mCons (mBin ixD (mIxN 1 (mUn iNeg (mC (.int 1)))) (mC (.int 0))) (mCons (mVar 3) (mCons (mVar 4) mNil))))) (mExpr (mApp 1 (mTup (mCons (mVar 2) (mCons (mVar 3) (mCons (mVar 4) mNil)))))))))
  (mRetT 1)))
def f_joined_signs : Fn := fnM 5 m_joined_signs
abbrev f_row_value : Fn := LC.f_row_value
abbrev f_first_from : Fn := LC.f_first_from
abbrev f_sign_of : Fn := LC.f_sign_of
abbrev f_cut_by_sign : Fn := LC.f_cut_by_sign
def m_signs_of : MS := (mSeq (mN (mOwn 3 (mLst (mCons (mTup (mCons (mVar 1) (mCons (mVar 2) (mCons (mC (.int 0)) mNil)))) mNil))))
  (mSeq (mN (mFor (mRng rng3 (mCons (mBin iSub (mUn fLen (mLook 0)) (mC (.int 1))) (mCons (mUn iNeg (mC (.int 1))) (mCons (mUn iNeg (mC (.int 1))) mNil)))) (gNm 4) (mSeq (mOwn 5 (mLc2 (mIt (mVar 3)) (gTp 3 (gsCons (gNm 6) (gsCons (gNm 7) (gsCons (gNm 8) gsNil)))) mYes (mIt (mCall f_cut_by_sign (mCons (mSlN 0 (mPart (mVar 4)) mNoP) (mCons (mVar 6) (mCons (mVar 7) (mCons (mVar 8) mNil)))))) (gNm 9) mYes (mVar 9) [6, 7, 8, 9] [9]))
  (mOwn 3 (mCallF f_joined_signs (mCons (mVar 5) mNil))))))
  (mRetT 3)))
def f_signs_of : Fn := fnM 10 m_signs_of
abbrev f_is_whole : Fn := LC.f_is_whole
def m_Size_signs : MS := (mSeq (mN (mIfS (mOrT (mNotT (mTru (mCall f_is_whole (mCons (mVar 1) mNil)))) (mBl (mBin iLt (mVar 1) (mC (.int 0))))) (mRaiseN "BadValue" ["shown"] (mCons (mVar 1) mNil)) mPass))
  (mSeq (mN (mIfS (mAndT (mBl (mBin fNotN (mVar 2) (mC .non))) (mOrT (mNotT (mTru (mCall f_is_whole (mCons (mVar 2) mNil)))) (mBl (mBin iLt (mVar 2) (mVar 1))))) (mRaiseN "BadValue" ["shown"] (mCons (mVar 2) mNil)) mPass))
  (mRet (mFz (mCallF f_signs_of (mCons (mFld "Size" "row" (mVar 0)) (mCons (mVar 1) (mCons (mVar 2) mNil))))))))
def f_Size_signs : Fn := fnM 3 m_Size_signs
abbrev f_trimmed : Fn := LC.f_trimmed
abbrev f_row_moved : Fn := LC.f_row_moved
abbrev f_whole_list : Fn := LC.f_whole_list
def m_Size___init__ : MS := (mSeq (mIfS (mNotT (mTru (mCall f_whole_list (mCons (mVar 1) mNil)))) (mRaiseN "BadValue" ["shown"] (mCons (mVar 1) mNil)) mPass)
  (mSetF "Size" "row" (mVar 0) (mCall f_trimmed (mCons (mVar 1) mNil))))
def f_Size___init__ : Fn := fnM 2 m_Size___init__
def m_Size___rshift__ : MS := (mSeq (mIfS (mNotT (mTru (mCall f_is_whole (mCons (mVar 1) mNil)))) (mRaiseN "BadValue" ["shown"] (mCons (mVar 1) mNil)) mPass)
  (mRet (mMake "Size" f_Size___init__ (mCons (mCall f_row_moved (mCons (mFld "Size" "row" (mVar 0)) (mCons (mUn iNeg (mVar 1)) mNil))) mNil))))
def f_Size___rshift__ : Fn := fnM 2 m_Size___rshift__
abbrev f__law_cut : Fn := LC.f__law_cut
abbrev f__law_whole : Fn := LC.f__law_whole
abbrev f__law_size_is : Fn := LC.f__law_size_is
def m_Size___floordiv__ : MS := (mSeq (mIfS (mOrT (mNotT (mTru (mCall f_is_whole (mCons (mVar 1) mNil)))) (mBl (mBin fEq (mVar 1) (mC (.int 0))))) (mRaiseN "BadValue" ["shown"] (mCons (mVar 1) mNil)) mPass)
  (mSeq (mIfS (mNotT (mTru (mUn fAll (mFz (mLc (mIt (mFld "Size" "row" (mVar 0))) (gNm 2) mYes (mBin fEq (mBin jMod (mVar 2) (mVar 1)) (mC (.int 0))) [2]))))) (mRaiseN "NotExact" ["by"] (mCons (mVar 1) mNil)) mPass)
  (mRet (mMake "Size" f_Size___init__ (mCons (mFz (mLc (mIt (mFld "Size" "row" (mVar 0))) (gNm 2) mYes (mBin jDiv (mVar 2) (mVar 1)) [2])) mNil)))))
def f_Size___floordiv__ : Fn := fnM 3 m_Size___floordiv__
abbrev f__law_draw : Fn := LC.f__law_draw
abbrev f__law_pick : Fn := LC.f__law_pick
def m__law_odd : MS := (mRet (mCall f__law_pick (mCons (mVar 0) (mCons (mFz (mLst (mCons (mC (.bl true)) (mCons (mC (.bl false)) (mCons (mC .non) (mCons (mC (.str "4")) (mCons (mC (.str "")) (mCons (mTup (mCons (mC (.int 3)) mNil)) (mCons (mFz (mLst mNil)) (mCons (mTup mNil) (mCons (mFz (mLst (mCons (mC (.int 0)) (mCons (mC (.int 1)) mNil)))) mNil))))))))))) mNil))))
def f__law_odd : Fn := fnM 1 m__law_odd
abbrev f__law_great : Fn := LC.f__law_great
abbrev f__law_integer : Fn := LC.f__law_integer
abbrev f__law_row : Fn := LC.f__law_row
def m__law_odd_row : MS := (mSeq (mSet 1 (mCall f__law_pick (mCons (mVar 0) (mCons (mFz (mLst (mCons (mC (.bl true)) (mCons (mC .non) (mCons (mC (.str "1")) (mCons (mTup (mCons (mC (.int 1)) mNil)) (mCons (mFz (mLst mNil)) mNil))))))) mNil))))
  (mSeq (mSet 2 (mCall f__law_row (mCons (mVar 0) (mCons (mC (.int 4)) mNil))))
  (mSeq (mSet 3 (mCall f__law_draw (mCons (mVar 0) (mCons (mBin fAdd (mUn fLen (mLook 2)) (mC (.int 1))) mNil))))
  (mSeq (mOwn 4 (mBinF lAddL (mFz (mBinF lAddL (mSlN 2 mNoP (mPart (mVar 3))) (mFz (mLst (mCons (mVar 1) mNil))))) (mSlN 2 (mPart (mVar 3)) mNoP)))
  (mRet (mCall f__law_pick (mCons (mVar 0) (mCons (mFz (mLst (mCons (mC .non) (mCons (mC (.int 7)) (mCons (mC (.str "12")) (mCons (mC (.bl false)) (mCons (mVar 4) (mCons (mVar 4) (mCons (mUn fTuple (mLook 4)) mNil))))))))) mNil))))))))
def f__law_odd_row : Fn := fnM 5 m__law_odd_row
abbrev f__law_far : Fn := LC.f__law_far
def m__law_cases (cl : List (Str × Addr)) : ME := (mBodyC (mAsg (gTL 2 (gsCons (gNm 2) (gsCons (gNm 3) gsNil))) (mTup (mCons (mCall f__law_odd (mCons (mVar 0) mNil)) (mCons (mCall f__law_odd_row (mCons (mVar 0) mNil)) mNil))))
  (mBodyC (mAsg (gTL 2 (gsCons (gNm 4) (gsCons (gNm 5) gsNil))) (mTup (mCons (mBin iSub (mUn iNeg (mC (.int 1))) (mCall f__law_far (mCons (mVar 0) mNil))) (mCons (mBin fAdd (mC (.int 1)) (mCall f__law_far (mCons (mVar 0) mNil))) mNil))))
  (mBodyC (mSet 6 (mCall f__law_pick (mCons (mVar 0) (mCons (mFz (mLst (mCons (mC (.bl true)) (mCons (mC (.str "4")) (mCons (mTup (mCons (mC (.int 3)) mNil)) (mCons (mBin iSub (mVar 5) (mC (.int 1))) (mCons (mUn iNeg (mVar 5)) mNil))))))) mNil))))
  (mFz (mLst (mCons (mTup (mCons (mLamF (lam__law_cases 0) cl) (mCons (mVar 3) mNil))) (mCons (mTup (mCons (mLamF (lam__law_cases 1) cl) (mCons (mVar 2) mNil))) (mCons (mTup (mCons (mLamF (lam__law_cases 2) cl) (mCons (mVar 3) mNil))) (mCons (mTup (mCons (mLamF (lam__law_cases 3) cl) (mCons (mVar 4) mNil))) (mCons (mTup (mCons (mLamF (lam__law_cases 4) cl) (mCons (mVar 2) mNil))) (mCons (mTup (mCons (mLamF (lam__law_cases 5) cl) (mCons (mVar 2) mNil))) (mCons (mTup (mCons (mLamF (lam__law_cases 6) cl) (mCons (mVar 4) mNil))) (mCons (mTup (mCons (mLamF (lam__law_cases 7) cl) (mCons (mVar 2) mNil))) (mCons (mTup (mCons (mLamF (lam__law_cases 8) cl) (mCons (mC (.int 0)) mNil))) (mCons (mTup (mCons (mLamF (lam__law_cases 9) cl) (mCons (mVar 2) mNil))) (mCons (mTup (mCons (mLamF (lam__law_cases 10) cl) (mCons (mVar 2) mNil))) (mCons (mTup (mCons (mLamF (lam__law_cases 11) cl) (mCons (mVar 2) mNil))) (mCons (mTup (mCons (mLamF (lam__law_cases 12) cl) (mCons (mVar 4) mNil))) (mCons (mTup (mCons (mLamF (lam__law_cases 13) cl) (mCons (mVar 4) mNil))) (mCons (mTup (mCons (mLamF (lam__law_cases 14) cl) (mCons (mVar 2) mNil))) (mCons (mTup (mCons (mLamF (lam__law_cases 15) cl) (mCons (mVar 6) mNil))) (mCons (mTup (mCons (mLamF (lam__law_cases 16) cl) (mCons (mVar 4) mNil))) (mCons (mTup (mCons (mLamF (lam__law_cases 17) cl) (mCons (mVar 2) mNil))) mNil)))))))))))))))))))))))
def f__law_cases : Fn := fnClo ["_law_pen_here", "_law_size", "_law_odd_here", "_law_wrong", "_law_low", "_law_n", "_law_text"] ["_law_size", "_law_odd_here", "_law_wrong", "_law_low", "_law_n", "_law_text"] m__law_cases
def m__law_alike (r : Fn) : MS := (mSeq (mIfS (mOrT (mBl (mBin fNe (mUn (fIsi "bool") (mLook 0)) (mUn (fIsi "bool") (mLook 1)))) (mBl (mBin fNe (mUn (fIsi "list") (mLook 0)) (mUn (fIsi "list") (mLook 1))))) (mRet (mC (.bl false))) mPass)
  (mSeq (mIfS (mAndT (mTru (mUn (fIsiA ["list", "tuple"]) (mVar 1))) (mAndT (mTru (mUn (fIsiA ["list", "tuple"]) (mVar 0))) (mBl (mBin fEq (mUn fLen (mLook 0)) (mUn fLen (mLook 1)))))) (mRet (mUn fAll (mFz (mLc (mZipB (mCons (mVar 0) (mCons (mVar 1) mNil))) (gTp 2 (gsCons (gNm 2) (gsCons (gNm 3) gsNil))) mYes (mCall r (mCons (mVar 2) (mCons (mVar 3) mNil))) [2, 3])))) mPass)
  (mRet (mBin fEq (mVar 0) (mVar 1)))))
def f__law_alike : Nat → Fn
  | 0 => fStuck
  | n + 1 => fnM 4 (m__law_alike (f__law_alike n))
abbrev f_differences : Fn := LC.f_differences
def m_Size_through : MS := (mSeq (mIfS (mNotT (mTru (mCall f_is_whole (mCons (mVar 1) mNil)))) (mRaiseN "BadValue" ["shown"] (mCons (mVar 1) mNil)) mPass)
  (mSeq (mIfS (mNotT (mTru (mCall f_whole_list (mCons (mVar 2) mNil)))) (mRaiseN "BadValue" ["shown"] (mCons (mVar 2) mNil)) mPass)
  (mRet (mCls 0 "Size" f_Size___init__ (mCons (mCall f_row_moved (mCons (mCall f_differences (mCons (mVar 2) mNil)) (mCons (mUn iNeg (mVar 1)) mNil))) mNil)))))
def f_Size_through : Fn := fnM 3 m_Size_through
abbrev f_falling_row : Fn := LC.f_falling_row
def m_Size_falling : MS := (mSeq (mIfS (mOrT (mNotT (mTru (mCall f_is_whole (mCons (mVar 0) mNil)))) (mBl (mBin iLt (mVar 0) (mC (.int 0))))) (mRaiseN "BadValue" ["shown"] (mCons (mVar 0) mNil)) mPass)
  (mSeq (mIfS (mNotT (mTru (mCall f_is_whole (mCons (mVar 1) mNil)))) (mRaiseN "BadValue" ["shown"] (mCons (mVar 1) mNil)) mPass)
  (mRet (mMake "Size" f_Size___init__ (mCons (mCall f_falling_row (mCons (mVar 0) (mCons (mVar 1) mNil))) mNil)))))
def f_Size_falling : Fn := fnM 2 m_Size_falling
def m_Size___call__ : MS := (mSeq (mIfS (mNotT (mTru (mCall f_is_whole (mCons (mVar 1) mNil)))) (mRaiseN "BadValue" ["shown"] (mCons (mVar 1) mNil)) mPass)
  (mRet (mCall f_row_value (mCons (mFld "Size" "row" (mVar 0)) (mCons (mVar 1) mNil)))))
def f_Size___call__ : Fn := fnM 2 m_Size___call__
def m_Size___lshift__ : MS := (mSeq (mIfS (mNotT (mTru (mCall f_is_whole (mCons (mVar 1) mNil)))) (mRaiseN "BadValue" ["shown"] (mCons (mVar 1) mNil)) mPass)
  (mRet (mMake "Size" f_Size___init__ (mCons (mCall f_row_moved (mCons (mFld "Size" "row" (mVar 0)) (mCons (mVar 1) mNil))) mNil))))
def f_Size___lshift__ : Fn := fnM 2 m_Size___lshift__
abbrev f_whole_row : Fn := LC.f_whole_row
abbrev f_negated : Fn := LC.f_negated
abbrev f_add_rows : Fn := LC.f_add_rows
abbrev f_take_rows : Fn := LC.f_take_rows
def m_Size_least_from : MS := (mSeq (mIfS (mNotT (mTru (mCall f_is_whole (mCons (mVar 1) mNil)))) (mRaiseN "BadValue" ["shown"] (mCons (mVar 1) mNil)) mPass)
  (mSeq (mSet 2 (mCall f_signs_of (mCons (mCall f_take_rows (mCons (mFld "Size" "row" (mVar 0)) (mCons (mCall f_whole_row (mCons (mVar 1) mNil)) mNil))) (mCons (mC (.int 0)) (mCons (mC .non) mNil)))))
  (mSeq (mIfS (mBl (mBin iLt (mBin ixD (mIxN 2 (mUn iNeg (mC (.int 1)))) (mC (.int 2))) (mC (.int 0)))) (mRet (mC .non)) mPass)
  (mSeq (mSet 3 (mC (.int 0)))
  (mSeq (mFor (mIt (mVar 2)) (gTp 3 (gsCons (gNm 4) (gsCons (gNm 5) (gsCons (gNm 6) gsNil)))) (mIfS (mBl (mBin iLt (mVar 6) (mC (.int 0)))) (mSet 3 (mBin fAdd (mVar 5) (mC (.int 1)))) mPass))
  (mRet (mVar 3)))))))
def f_Size_least_from : Fn := fnM 7 m_Size_least_from
def tab__law_cases : LamT := [(lam__law_cases 0, (mMake "Size" f_Size___init__ (mCons (mVar 0) mNil))),
  (lam__law_cases 1, (mCMx "Size" f_Size_through (mCons (mVar 0) (mCons (mVar 1) mNil)))),
  (lam__law_cases 2, (mCMx "Size" f_Size_through (mCons (mVar 0) (mCons (mVar 1) mNil)))),
  (lam__law_cases 3, (mSMx f_Size_falling [.int 0] (mCons (mVar 0) mNil))),
  (lam__law_cases 4, (mSMx f_Size_falling [] (mCons (mVar 0) (mCons (mVar 0) mNil)))),
  (lam__law_cases 5, (mSMx f_Size_falling [] (mCons (mC (.int 2)) (mCons (mVar 0) mNil)))),
  (lam__law_cases 6, (mSMx f_Size_falling [] (mCons (mVar 0) (mCons (mVar 1) mNil)))),
  (lam__law_cases 7, (mCallOx "Size" f_Size___call__ (mVar 1) (mCons (mVar 0) mNil))),
  (lam__law_cases 8, (mOpAn "Size" f_Size___floordiv__ (mVar 0) (mC (.int 0)))),
  (lam__law_cases 9, (mOpAn "Size" f_Size___floordiv__ (mVar 1) (mVar 0))),
  (lam__law_cases 10, (mOpAn "Size" f_Size___rshift__ (mVar 1) (mVar 0))),
  (lam__law_cases 11, (mOpAn "Size" f_Size___lshift__ (mVar 1) (mVar 0))),
  (lam__law_cases 12, (mMeth "Size" "signs" f_Size_signs [.non] (mVar 1) (mCons (mVar 0) mNil))),
  (lam__law_cases 13, (mMeth "Size" "signs" f_Size_signs [] (mVar 2) (mCons (mVar 0) (mCons (mVar 1) mNil)))),
  (lam__law_cases 14, (mMeth "Size" "signs" f_Size_signs [.non] (mVar 1) (mCons (mVar 0) mNil))),
  (lam__law_cases 15, (mMeth "Size" "signs" f_Size_signs [] (mVar 1) (mCons (mVar 0) (mCons (mVar 2) mNil)))),
  (lam__law_cases 16, (mMethKw "Size" "signs" f_Size_signs 1 (fun ds es => ds ++ ([.int 0] ++ es)) (mVar 1) (mCons (mVar 0) mNil))),
  (lam__law_cases 17, (mMeth "Size" "least_from" f_Size_least_from [] (mVar 1) (mCons (mVar 0) mNil)))]
def m__law_error : MS := (mSeq (mTryCl [(HKN.tabL LL "BadValue", some 1, (mRet (mIf (mAndT (mTru (mIsX (HKN.tabT LL) 1)) (mTru (mIsX (HKN.tabT LL) 1))) (mTup (mCons (mC (.str "value")) (mCons (mXf 1 "BadValue" "shown") mNil))) (mC .non)))), (HKN.tabL LL "NotExact", some 1, (mRet (mIf (mTru (mIsX (HKN.tabT LL) 1)) (mTup (mCons (mC (.str "exact")) (mCons (mXf 1 "NotExact" "by") mNil))) (mC .non)))), (HKN.tabL LL "EmptySpan", some 1, (mRet (mTup (mCons (mC (.str "empty")) (mCons (mIsX (HKN.tabT LL) 1) mNil))))), (HKN.tabL LL "NoBound", some 1, (mRet (mTup (mCons (mC (.str "bound")) (mCons (mIsX (HKN.tabT LL) 1) mNil)))))] (mExpr (mCallClo 0 tab__law_cases)))
  (mRet (mC .non)))
def f__law_error : Fn := fnM 2 m__law_error
def m__law_refuses : MS := (mSeq (mSet 2 (mCall f__law_error (mCons (mVar 0) mNil)))
  (mRet (mAnd (mBin fNotN (mVar 2) (mC .non)) (mAnd (mBin fEq (mIxN 2 (mC (.int 0))) (mC (.str "value"))) (mCall (f__law_alike 8) (mCons (mIxN 2 (mC (.int 1))) (mCons (mVar 1) mNil)))))))
def f__law_refuses : Fn := fnM 3 m__law_refuses
abbrev f__law_pen : Fn := LC.f__law_pen
def m_law : MS := (mSeq (mSet 1 (mCall f__law_pen (mCons (mVar 0) mNil)))
  (mSeq (mFor (mRng rng1 (mCons (mBin fAdd (mC (.int 2)) (mMin2 (mCons (mC (.int 3)) (mCons (mUn fLen (mLook 0)) mNil)))) mNil)) (gNm 2) (mSeq (mSet 3 (mCall f__law_row (mCons (mVar 1) (mCons (mC (.int 4)) mNil))))
  (mSeq (mSet 4 (mMake "Size" f_Size___init__ (mCons (mVar 3) mNil)))
  (mSeq (mFor (mIt (mCall f__law_cases (mCons (mVar 1) (mCons (mVar 4) mNil)))) (gTp 2 (gsCons (gNm 5) (gsCons (gNm 6) gsNil))) (mIfS (mNotT (mTru (mCall f__law_refuses (mCons (mVar 5) (mCons (mVar 6) mNil))))) (mRet (mC (.bl false))) mPass))
  (mSeq (mIfS (mOrT (mNotT (mTru (mCall f__law_size_is (mCons (mVar 4) (mCons (mCall f__law_cut (mCons (mVar 3) mNil)) mNil))))) (mNotT (mTru (mCall f__law_size_is (mCons (mOpI "Size" f_Size___floordiv__ (mVar 4) (mC (.int 1))) (mCons (mCall f__law_cut (mCons (mVar 3) mNil)) mNil)))))) (mRet (mC (.bl false))) mPass)
  (mIfS (mOrT (mNotT (mTru (mCall f__law_size_is (mCons (mOpI "Size" f_Size___rshift__ (mVar 4) (mC (.int 0))) (mCons (mCall f__law_cut (mCons (mVar 3) mNil)) mNil))))) (mBl (mBin fNe (mUn fLen (mMeth "Size" "signs" f_Size_signs [] (mVar 4) (mCons (mC (.int 3)) (mCons (mC (.int 3)) mNil)))) (mC (.int 1))))) (mRet (mC (.bl false))) mPass))))))
  (mRet (mC (.bl true)))))
def f_law : Fn := fnM 7 m_law
section
variable {P : Program} {w : World} {K : PySem.W.Frag} {mg : Str → Option Value} {base : Heap}
theorem sc_joined_signs__o : FnScope ["parts", "told", "low", "high", "sign"] ["parts"] (defScope (top 22)) := ⟨rfl, rfl, rfl, by decide +kernel, rfl, by decide +kernel, by decide +kernel⟩
theorem ok_joined_signs__o (F : FnW K "joined_signs" (top 22)) (hm : mg "joined_signs" = some (.ref (He.ga K "joined_signs"))) (g_len : mg "len" = none) : KnO P w K mg base "joined_signs" 1 ["parts"] f_joined_signs := by
  have sc := sc_joined_signs__o
  refine kno_ok F hm sc (fun _ _ _ _ _ _ us hl => match us, hl with | [_], _ => rfl) (k := 0) fun cdv A outer s H E hr tk hp hu hu1 => ?_
  exact (jsso_cons (jso_of (js_own sc.nd (i := 1) rfl (by first | exact Or.inl rfl | exact Or.inr rfl) (jf_lst ja_nil)))
  (jsso_cons (jso_of (js_for hp rfl (ji_seq (je_var 0)) (jg_tup rfl (jgs_cons (jg_name sc.nd rfl (by first | exact Or.inl rfl | exact Or.inr rfl)) (jgs_cons (jg_name sc.nd rfl (by first | exact Or.inl rfl | exact Or.inr rfl)) (jgs_cons (jg_name sc.nd rfl (by first | exact Or.inl rfl | exact Or.inr rfl)) jgs_nil)))) (jss_one (js_if (JW.jt (jw_and (jt_cmp op_gt k_gt (je_b1 call_len k_len rfl g_len (by kernel_rfl) (jb_var 1)) je_int (nomark _)) (jw_and1 (jt_cmp (op_eqX hu) k_eq (je_ix (je_ixV 1 (je_neg je_int)) je_int) (je_var 4) (nomark _))))) (jss_one (js_setIx (je_tup (ja_cons (je_ix (je_ixV 1 (je_neg je_int)) je_int) (ja_cons (je_var 3) (ja_cons (je_var 4) ja_nil)))) (je_neg je_int))) (jss_one (js_expr (je_app (je_tup (ja_cons (je_var 2) (ja_cons (je_var 3) (ja_cons (je_var 4) ja_nil)))))))))))
  (jsso_one (jso_retV 1))))
theorem sc_row_value : FnScope ["row", "n", "total", "choose", "k", "number"] ["row", "n"] (defScope (top 11)) := ⟨rfl, rfl, rfl, by decide +kernel, rfl, by decide +kernel, by decide +kernel⟩
theorem ok_row_value (F : FnW K "row_value" (top 11)) (hm : mg "row_value" = some (.ref (He.ga K "row_value"))) (g_enumerate : mg "enumerate" = none) : Kn P w K mg base "row_value" 1 ["row", "n"] f_row_value := by
  have sc := sc_row_value
  refine kn_ok F hm sc (fun _ _ _ _ _ _ us hl => match us, hl with | [_, _], _ => rfl) (k := 0) fun cdv A outer s H E hr tk hp hu hu1 => ?_
  exact (jss_cons (js_set sc.nd (i := 2) rfl (by first | exact Or.inl rfl | exact Or.inr rfl) je_int)
  (jss_cons (js_set sc.nd (i := 3) rfl (by first | exact Or.inl rfl | exact Or.inr rfl) je_int)
  (jss_cons (js_for hp rfl (ji_enum rfl g_enumerate (je_var 0)) (jg_tup rfl (jgs_cons (jg_name sc.nd rfl (by first | exact Or.inl rfl | exact Or.inr rfl)) (jgs_cons (jg_name sc.nd rfl (by first | exact Or.inl rfl | exact Or.inr rfl)) jgs_nil))) (jss_cons (js_set sc.nd (i := 2) rfl (by first | exact Or.inl rfl | exact Or.inr rfl) (je_bin op_addX k_addX (je_var 2) (je_bin op_mulX k_mulX (je_var 5) (je_var 3))))
  (jss_one (js_set sc.nd (i := 3) rfl (by first | exact Or.inl rfl | exact Or.inr rfl) (je_bin op_fdivW k_div (je_bin op_mulX k_mulX (je_var 3) (je_bin op_sub k_sub (je_var 1) (je_var 4))) (je_bin op_addX k_addX (je_var 4) je_int))))))
  (jss_one (js_ret (je_var 2))))))
theorem sc_first_from : FnScope ["row", "turn", "low", "high", "gap", "middle"] ["row", "turn", "low", "high"] (defScope (top 20)) := ⟨rfl, rfl, rfl, by decide +kernel, rfl, by decide +kernel, by decide +kernel⟩
theorem ok_first_from (F : FnW K "first_from" (top 20)) (hm : mg "first_from" = some (.ref (He.ga K "first_from"))) (c_row_value : Kn P w K mg base "row_value" 1 ["row", "n"] f_row_value) : Kn P w K mg base "first_from" 2 ["row", "turn", "low", "high"] f_first_from := by
  have sc := sc_first_from
  refine kn_ok F hm sc (fun _ _ _ _ _ _ us hl => match us, hl with | [_, _, _, _], _ => rfl) (k := 1) fun cdv A outer s H E hr tk hp hu hu1 => ?_
  exact (jss_cons (js_if (jt_cmp op_isN k_isN (je_var 3) je_non (nomark _)) (jss_cons (js_set sc.nd (i := 4) rfl (by first | exact Or.inl rfl | exact Or.inr rfl) je_int)
  (jss_cons (js_while hp (jt_cmp op_lt k_lt (je_bin op_mulX k_mulX (je_var 1) (je_callK c_row_value (hr.mono (by omega)) tk rfl (ja_cons (je_var 0) (ja_cons (je_bin op_addX k_addX (je_var 2) (je_var 4)) ja_nil)))) je_int (nomark _)) (jss_one (js_set sc.nd (i := 4) rfl (by first | exact Or.inl rfl | exact Or.inr rfl) (je_bin op_mulX k_mulX (je_var 4) je_int))))
  (jss_one (js_set sc.nd (i := 3) rfl (by first | exact Or.inl rfl | exact Or.inr rfl) (je_bin op_addX k_addX (je_var 2) (je_var 4)))))) jss_nil)
  (jss_cons (js_while hp (jt_cmp op_le k_le (je_var 2) (je_var 3) (nomark _)) (jss_cons (js_set sc.nd (i := 5) rfl (by first | exact Or.inl rfl | exact Or.inr rfl) (je_bin op_fdivW k_div (je_bin op_addX k_addX (je_var 2) (je_var 3)) je_int))
  (jss_one (js_if (jt_cmp op_lt k_lt (je_bin op_mulX k_mulX (je_var 1) (je_callK c_row_value (hr.mono (by omega)) tk rfl (ja_cons (je_var 0) (ja_cons (je_var 5) ja_nil)))) je_int (nomark _)) (jss_one (js_set sc.nd (i := 2) rfl (by first | exact Or.inl rfl | exact Or.inr rfl) (je_bin op_addX k_addX (je_var 5) je_int))) (jss_one (js_set sc.nd (i := 3) rfl (by first | exact Or.inl rfl | exact Or.inr rfl) (je_bin op_sub k_sub (je_var 5) je_int)))))))
  (jss_one (js_ret (je_var 2)))))
theorem sc_sign_of : FnScope ["number"] ["number"] (defScope (top 19)) := ⟨rfl, rfl, rfl, by decide +kernel, rfl, by decide +kernel, by decide +kernel⟩
theorem ok_sign_of (F : FnW K "sign_of" (top 19)) (hm : mg "sign_of" = some (.ref (He.ga K "sign_of"))) (g_int : mg "int" = none) : Kn P w K mg base "sign_of" 1 ["number"] f_sign_of := by
  have sc := sc_sign_of
  refine kn_ok F hm sc (fun _ _ _ _ _ _ us hl => match us, hl with | [_], _ => rfl) (k := 0) fun cdv A outer s H E hr tk hp hu hu1 => ?_
  exact (jss_one (js_ret (je_bin op_sub k_sub (je_t1 call_int1 k_int rfl g_int (by kernel_rfl) (jb_of (je_cmp op_gt k_gt (je_var 0) je_int (nomark _)))) (je_t1 call_int1 k_int rfl g_int (by kernel_rfl) (jb_of (je_cmp op_lt k_lt (je_var 0) je_int (nomark _)))))))
theorem sc_cut_by_sign : FnScope ["row", "low", "high", "turn", "first", "second", "parts", "part"] ["row", "low", "high", "turn"] (defScope (top 21)) := ⟨rfl, rfl, rfl, by decide +kernel, rfl, by decide +kernel, by decide +kernel⟩
theorem ok_cut_by_sign (F : FnW K "cut_by_sign" (top 21)) (hm : mg "cut_by_sign" = some (.ref (He.ga K "cut_by_sign"))) (c_row_value : Kn P w K mg base "row_value" 1 ["row", "n"] f_row_value) (c_first_from : Kn P w K mg base "first_from" 2 ["row", "turn", "low", "high"] f_first_from) (c_sign_of : Kn P w K mg base "sign_of" 1 ["number"] f_sign_of) (g_int : mg "int" = none) : Kn P w K mg base "cut_by_sign" 3 ["row", "low", "high", "turn"] f_cut_by_sign := by
  have sc := sc_cut_by_sign
  refine kn_ok F hm sc (fun _ _ _ _ _ _ us hl => match us, hl with | [_, _, _, _], _ => rfl) (k := 2) fun cdv A outer s H E hr tk hp hu hu1 => ?_
  exact (jss_cons (js_if (jt_cmp (op_eqX hu) k_eq (je_var 3) je_int (nomark _)) (jss_one (js_ret (je_fz (jf_lst (ja_cons (je_tup (ja_cons (je_var 1) (ja_cons (je_var 2) (ja_cons (je_callK c_sign_of (hr.mono (by omega)) tk rfl (ja_cons (je_callK c_row_value (hr.mono (by omega)) tk rfl (ja_cons (je_var 0) (ja_cons (je_var 1) ja_nil))) ja_nil)) ja_nil)))) ja_nil))))) jss_nil)
  (jss_cons (js_set sc.nd (i := 4) rfl (by first | exact Or.inl rfl | exact Or.inr rfl) (je_callK c_first_from (hr.mono (by omega)) tk rfl (ja_cons (je_var 0) (ja_cons (je_var 3) (ja_cons (je_var 1) (ja_cons (je_var 2) ja_nil))))))
  (jss_cons (js_if (JW.jt (jw_and (jt_cmp op_notN k_notN (je_var 2) je_non (nomark _)) (jw_and1 (jt_cmp op_gt k_gt (je_var 4) (je_var 2) (nomark _))))) (jss_one (js_ret (je_fz (jf_lst (ja_cons (je_tup (ja_cons (je_var 1) (ja_cons (je_var 2) (ja_cons (je_neg (je_var 3)) ja_nil)))) ja_nil))))) jss_nil)
  (jss_cons (js_set sc.nd (i := 5) rfl (by first | exact Or.inl rfl | exact Or.inr rfl) (je_bin op_addX k_addX (je_var 4) (je_t1 call_int1 k_int rfl g_int (by kernel_rfl) (jb_of (je_cmp (op_eqX hu) k_eq (je_callK c_row_value (hr.mono (by omega)) tk rfl (ja_cons (je_var 0) (ja_cons (je_var 4) ja_nil))) je_int (nomark _))))))
  (jss_cons (js_own sc.nd (i := 6) rfl (by first | exact Or.inl rfl | exact Or.inr rfl) (jf_lst (ja_cons (je_tup (ja_cons (je_var 1) (ja_cons (je_bin op_sub k_sub (je_var 4) je_int) (ja_cons (je_neg (je_var 3)) ja_nil)))) (ja_cons (je_tup (ja_cons (je_var 4) (ja_cons (je_bin op_sub k_sub (je_var 5) je_int) (ja_cons je_int ja_nil)))) (ja_cons (je_tup (ja_cons (je_var 5) (ja_cons (je_var 2) (ja_cons (je_var 3) ja_nil)))) ja_nil)))))
  (jss_one (js_ret (je_fz (jf_lc (own := [("part", 7)]) rfl sc.nd (ji_seq (je_var 6)) (blk_ok (by kernel_rfl)) (fun s2 H2 C2 cl2 fp2 => (jg_name sc.nd rfl (by first | exact Or.inl rfl | exact Or.inr rfl))) (fun s2 H2 C2 cl2 fp2 => (jts_one (JW.jt (jw_or (jt_cmp op_isN k_isN (je_ixV 7 je_int) je_non (nomark _)) (jw_or1 (jt_cmp op_le k_le (je_ixV 7 je_int) (je_ixV 7 je_int) (nomark _))))))) (fun s2 H2 C2 cl2 fp2 => (je_var 7)))))))))))
theorem sc_signs_of__o : FnScope ["row", "low", "high", "parts", "k", "cut", "start", "end", "turn", "piece"] ["row", "low", "high"] (defScope (top 23)) := ⟨rfl, rfl, rfl, by decide +kernel, rfl, by decide +kernel, by decide +kernel⟩
theorem ok_signs_of__o (F : FnW K "signs_of" (top 23)) (hm : mg "signs_of" = some (.ref (He.ga K "signs_of"))) (c_joined_signs__o : KnO P w K mg base "joined_signs" 1 ["parts"] f_joined_signs) (c_cut_by_sign : Kn P w K mg base "cut_by_sign" 3 ["row", "low", "high", "turn"] f_cut_by_sign) (g_len : mg "len" = none) (g_range : mg "range" = none) : KnO P w K mg base "signs_of" 4 ["row", "low", "high"] f_signs_of := by
  have sc := sc_signs_of__o
  refine kno_ok F hm sc (fun _ _ _ _ _ _ us hl => match us, hl with | [_, _, _], _ => rfl) (k := 3) fun cdv A outer s H E hr tk hp hu hu1 => ?_
  exact (jsso_cons (jso_of (js_own sc.nd (i := 3) rfl (by first | exact Or.inl rfl | exact Or.inr rfl) (jf_lst (ja_cons (je_tup (ja_cons (je_var 1) (ja_cons (je_var 2) (ja_cons je_int ja_nil)))) ja_nil))))
  (jsso_cons (jso_of (js_for hp rfl (ji_range3 rfl g_range (ja_cons (je_bin op_sub k_sub (je_b1 call_len k_len rfl g_len (by kernel_rfl) (jb_var 0)) je_int) (ja_cons (je_neg je_int) (ja_cons (je_neg je_int) ja_nil)))) (jg_name sc.nd rfl (by first | exact Or.inl rfl | exact Or.inr rfl)) (jss_cons (js_lc2 (own := [("start", 6), ("end", 7), ("turn", 8), ("piece", 9)]) rfl sc.nd (i := 5) rfl rfl (sw_true rfl rfl rfl (by kernel_rfl)) (ji_seq (je_var 3)) (blk_ok (by kernel_rfl)) (fun s2 H2 C2 cl2 fp2 => (jg_tup rfl (jgs_cons (jg_name sc.nd rfl (by first | exact Or.inl rfl | exact Or.inr rfl)) (jgs_cons (jg_name sc.nd rfl (by first | exact Or.inl rfl | exact Or.inr rfl)) (jgs_cons (jg_name sc.nd rfl (by first | exact Or.inl rfl | exact Or.inr rfl)) jgs_nil))))) (fun s2 H2 C2 cl2 fp2 => jts_nil) (fun s2 H2 C2 cl2 fp2 => (ji_seq (je_callK c_cut_by_sign (hr.mono (by omega)) tkF rfl (ja_cons (je_slN 0 (jo_some (je_var 4)) jo_none) (ja_cons (je_var 6) (ja_cons (je_var 7) (ja_cons (je_var 8) ja_nil))))))) (fun s2 H2 C2 cl2 fp2 => (jg_name sc.nd rfl (by first | exact Or.inl rfl | exact Or.inr rfl))) (fun s2 H2 C2 cl2 fp2 => jts_nil) (fun s2 H2 C2 cl2 fp2 => (je_var 9)))
  (jss_one (js_own sc.nd (i := 3) rfl (by first | exact Or.inl rfl | exact Or.inr rfl) (jf_callO c_joined_signs__o (hr.mono (by omega)) tk rfl (ja_cons (je_var 5) ja_nil)))))))
  (jsso_one (jso_retV 3))))
theorem sc_is_whole : FnScope ["value"] ["value"] (defScope (top 7)) := ⟨rfl, rfl, rfl, by decide +kernel, rfl, by decide +kernel, by decide +kernel⟩
theorem ok_is_whole (F : FnW K "is_whole" (top 7)) (hm : mg "is_whole" = some (.ref (He.ga K "is_whole"))) (g_isinstance : mg "isinstance" = none) (g_bool : mg "bool" = none) (g_int : mg "int" = none) : Kn P w K mg base "is_whole" 1 ["value"] f_is_whole := by
  have sc := sc_is_whole
  refine kn_ok F hm sc (fun _ _ _ _ _ _ us hl => match us, hl with | [_], _ => rfl) (k := 0) fun cdv A outer s H E hr tk hp hu hu1 => ?_
  exact (jss_one (js_ret (je_and (je_isi (T := "int") (by decide) rfl g_isinstance rfl g_int (by kernel_rfl) (jb_var 0)) (je_one (je_not (je_isi (T := "bool") (by decide) rfl g_isinstance rfl g_bool (by kernel_rfl) (jb_var 0)))))))
theorem sc_Size_signs__p2 : FnScope ["self", "start", "end"] ["self", "start", "end"] (defScope (clsDef (top 26) 21)) := ⟨rfl, rfl, rfl, by decide +kernel, rfl, by decide +kernel, by decide +kernel⟩
theorem ok_Size_signs__p2 (F : FdW K "signs" "Size.signs" (clsDef (top 26) 21) [(.int 0 : V), (.non : V)] (He.ma K (He.ga K "Size") "signs")) (C_Size : KC K mg "Size") (c_signs_of__o : KnO P w K mg base "signs_of" 4 ["row", "low", "high"] f_signs_of) (c_is_whole : Kn P w K mg base "is_whole" 1 ["value"] f_is_whole) (n_BadValue : mg "BadValue" = some (.ref (He.ga K "BadValue"))) (x_BadValue : XN P K mg "BadValue" ["shown"]) (na_Size_row : NoAttr K (He.ga K "Size") "row") : KnD P w K mg base (He.ma K (He.ga K "Size") "signs") 5 ["self", "start", "end"] f_Size_signs [] := by
  have sc := sc_Size_signs__p2
  refine knD_ok F sc (fun fd F => bd_any F 3 2 (by simp) (by rfl) fun _ _ _ _ _ _ _ us its hl hi => match us, hl, its, hi with | [_, _, _], _, [_, _], _ => ⟨_, rfl, rfl⟩) (fun _ => .nil) (k := 4) fun cdv A outer s H E hr tk hp hu hu1 => ?_
  exact (jss_cons (js_N (js_if (JW.jt (jw_or (jt_not (jt_truth (je_callK c_is_whole (hr.mono (by omega)) tk rfl (ja_cons (je_var 1) ja_nil)))) (jw_or1 (jt_cmp op_lt k_lt (je_var 1) je_int (nomark _))))) (jss_one (js_raiseN rfl x_BadValue.1 n_BadValue hr tk (ja_cons (je_var 1) ja_nil) rfl)) jss_nil))
  (jss_cons (js_N (js_if (JW.jt (jw_and (jt_cmp op_notN k_notN (je_var 2) je_non (nomark _)) (jw_and1 (JW.jt (jw_or (jt_not (jt_truth (je_callK c_is_whole (hr.mono (by omega)) tk rfl (ja_cons (je_var 2) ja_nil)))) (jw_or1 (jt_cmp op_lt k_lt (je_var 2) (je_var 1) (nomark _)))))))) (jss_one (js_raiseN rfl x_BadValue.1 n_BadValue hr tk (ja_cons (je_var 2) ja_nil) rfl)) jss_nil))
  (jss_one (js_ret (je_fz (jf_callO c_signs_of__o (hr.mono (by omega)) tk rfl (ja_cons (je_fld C_Size.cl na_Size_row (je_var 0)) (ja_cons (je_var 1) (ja_cons (je_var 2) ja_nil)))))))))
theorem sc_trimmed : FnScope ["row", "many"] ["row"] (defScope (top 9)) := ⟨rfl, rfl, rfl, by decide +kernel, rfl, by decide +kernel, by decide +kernel⟩
theorem ok_trimmed (F : FnW K "trimmed" (top 9)) (hm : mg "trimmed" = some (.ref (He.ga K "trimmed"))) (g_tuple : mg "tuple" = none) (g_len : mg "len" = none) : Kn P w K mg base "trimmed" 1 ["row"] f_trimmed := by
  have sc := sc_trimmed
  refine kn_ok F hm sc (fun _ _ _ _ _ _ us hl => match us, hl with | [_], _ => rfl) (k := 0) fun cdv A outer s H E hr tk hp hu hu1 => ?_
  exact (jss_cons (js_set sc.nd (i := 1) rfl (by first | exact Or.inl rfl | exact Or.inr rfl) (je_b1 call_len k_len rfl g_len (by kernel_rfl) (jb_var 0)))
  (jss_cons (js_while hp (JW.jt (jw_and (jt_cmp op_gt k_gt (je_var 1) je_int (nomark _)) (jw_and1 (jt_cmp (op_eqX hu) k_eq (je_ixV 0 (je_bin op_sub k_sub (je_var 1) je_int)) je_int (nomark _))))) (jss_one (js_set sc.nd (i := 1) rfl (by first | exact Or.inl rfl | exact Or.inr rfl) (je_bin op_sub k_sub (je_var 1) je_int))))
  (jss_one (js_ret (je_t1 call_tuple_of k_tuple rfl g_tuple (by kernel_rfl) (jb_of (je_slN 0 jo_none (jo_some (je_var 1)))))))))
theorem sc_row_moved : FnScope ["row", "by", "k"] ["row", "by"] (defScope (top 13)) := ⟨rfl, rfl, rfl, by decide +kernel, rfl, by decide +kernel, by decide +kernel⟩
theorem ok_row_moved (F : FnW K "row_moved" (top 13)) (hm : mg "row_moved" = some (.ref (He.ga K "row_moved"))) (c_row_value : Kn P w K mg base "row_value" 1 ["row", "n"] f_row_value) (c_trimmed : Kn P w K mg base "trimmed" 1 ["row"] f_trimmed) (g_len : mg "len" = none) (g_range : mg "range" = none) : Kn P w K mg base "row_moved" 2 ["row", "by"] f_row_moved := by
  have sc := sc_row_moved
  refine kn_ok F hm sc (fun _ _ _ _ _ _ us hl => match us, hl with | [_, _], _ => rfl) (k := 1) fun cdv A outer s H E hr tk hp hu hu1 => ?_
  exact (jss_one (js_ret (je_callK c_trimmed (hr.mono (by omega)) tk rfl (ja_cons (je_fz (jf_lc (own := [("k", 2)]) rfl sc.nd (ji_range1 rfl g_range (ja_cons (je_b1 call_len k_len rfl g_len (by kernel_rfl) (jb_var 0)) ja_nil)) (blk_ok (by kernel_rfl)) (fun s2 H2 C2 cl2 fp2 => (jg_name sc.nd rfl (by first | exact Or.inl rfl | exact Or.inr rfl))) (fun s2 H2 C2 cl2 fp2 => jts_nil) (fun s2 H2 C2 cl2 fp2 => (je_callK c_row_value (hr.mono (by omega)) tkF rfl (ja_cons (je_slN 0 (jo_some (je_var 2)) jo_none) (ja_cons (je_var 1) ja_nil)))))) ja_nil))))
theorem sc_whole_list : FnScope ["values", "value"] ["values"] (defScope (top 8)) := ⟨rfl, rfl, rfl, by decide +kernel, rfl, by decide +kernel, by decide +kernel⟩
theorem ok_whole_list (F : FnW K "whole_list" (top 8)) (hm : mg "whole_list" = some (.ref (He.ga K "whole_list"))) (c_is_whole : Kn P w K mg base "is_whole" 1 ["value"] f_is_whole) (g_all : mg "all" = none) (g_isinstance : mg "isinstance" = none) (g_list : mg "list" = none) (g_tuple : mg "tuple" = none) : Kn P w K mg base "whole_list" 2 ["values"] f_whole_list := by
  have sc := sc_whole_list
  refine kn_ok F hm sc (fun _ _ _ _ _ _ us hl => match us, hl with | [_], _ => rfl) (k := 1) fun cdv A outer s H E hr tk hp hu hu1 => ?_
  exact (jss_one (js_ret (je_and (je_isi2 (T := "list") (U := "tuple") (by decide) (by decide) rfl g_isinstance rfl g_list (by kernel_rfl) rfl g_tuple (by kernel_rfl) (je_var 0)) (je_one (je_b1 (cr_all rfl) k_all rfl g_all (by kernel_rfl) (jb_new (jf_lc (own := [("value", 1)]) rfl sc.nd (ji_seq (je_var 0)) (blk_ok (by kernel_rfl)) (fun s2 H2 C2 cl2 fp2 => (jg_name sc.nd rfl (by first | exact Or.inl rfl | exact Or.inr rfl))) (fun s2 H2 C2 cl2 fp2 => jts_nil) (fun s2 H2 C2 cl2 fp2 => (je_callK c_is_whole (hr.mono (by omega)) tkF rfl (ja_cons (je_var 1) ja_nil))))))))))
theorem sc_Size___init__ : FnScope ["self", "row"] ["self", "row"] (defScope (clsDef (top 26) 0)) := ⟨rfl, rfl, rfl, by decide +kernel, rfl, by decide +kernel, by decide +kernel⟩
theorem ok_Size___init__ {d0 : V} (F : MtW K "Size" "__init__" "Size.__init__" (clsDef (top 26) 0) [d0]) (C_Size : KC K mg "Size") (c_trimmed : Kn P w K mg base "trimmed" 1 ["row"] f_trimmed) (c_whole_list : Kn P w K mg base "whole_list" 2 ["values"] f_whole_list) (n_BadValue : mg "BadValue" = some (.ref (He.ga K "BadValue"))) (x_BadValue : XN P K mg "BadValue" ["shown"]) (na_Size_row : NoAttr K (He.ga K "Size") "row") : KnM P w K mg base "Size" "__init__" 3 ["self", "row"] f_Size___init__ := by
  have sc := sc_Size___init__
  refine knM_ok F sc (fun fd F => binds_full F fun _ _ _ _ _ _ _ us its hl hi => match us, hl, its, hi with | [_, _], _, [_], _ => ⟨_, rfl, rfl⟩) (k := 2) fun cdv A outer s H E hr tk hp hu hu1 => ?_
  exact (jss_cons (js_if (jt_not (jt_truth (je_callK c_whole_list (hr.mono (by omega)) tk rfl (ja_cons (je_var 1) ja_nil)))) (jss_one (js_raiseN rfl x_BadValue.1 n_BadValue hr tk (ja_cons (je_var 1) ja_nil) rfl)) jss_nil)
  (jss_one (js_setF C_Size.cl na_Size_row (je_var 0) (je_callK c_trimmed (hr.mono (by omega)) tk rfl (ja_cons (je_var 1) ja_nil)))))
theorem sc_Size___rshift__ : FnScope ["self", "k"] ["self", "k"] (defScope (clsDef (top 26) 19)) := ⟨rfl, rfl, rfl, by decide +kernel, rfl, by decide +kernel, by decide +kernel⟩
theorem ok_Size___rshift__ (F : MtW K "Size" "__rshift__" "Size.__rshift__" (clsDef (top 26) 19) []) (C_Size : KC K mg "Size") (c_row_moved : Kn P w K mg base "row_moved" 2 ["row", "by"] f_row_moved) (c_Size___init__ : KnM P w K mg base "Size" "__init__" 3 ["self", "row"] f_Size___init__) (c_is_whole : Kn P w K mg base "is_whole" 1 ["value"] f_is_whole) (n_BadValue : mg "BadValue" = some (.ref (He.ga K "BadValue"))) (x_BadValue : XN P K mg "BadValue" ["shown"]) (na_Size_row : NoAttr K (He.ga K "Size") "row") : KnM P w K mg base "Size" "__rshift__" 5 ["self", "k"] f_Size___rshift__ := by
  have sc := sc_Size___rshift__
  refine knM_ok F sc (fun fd F => F.bindsN fun _ _ _ _ _ _ us hl => match us, hl with | [_, _], _ => rfl) (k := 4) fun cdv A outer s H E hr tk hp hu hu1 => ?_
  exact (jss_cons (js_if (jt_not (jt_truth (je_callK c_is_whole (hr.mono (by omega)) tk rfl (ja_cons (je_var 1) ja_nil)))) (jss_one (js_raiseN rfl x_BadValue.1 n_BadValue hr tk (ja_cons (je_var 1) ja_nil) rfl)) jss_nil)
  (jss_one (js_ret (je_makeK C_Size c_Size___init__ (hr.mono (by omega)) tk rfl (ja_cons (je_callK c_row_moved (hr.mono (by omega)) tk rfl (ja_cons (je_fld C_Size.cl na_Size_row (je_var 0)) (ja_cons (je_neg (je_var 1)) ja_nil))) ja_nil)))))
theorem sc__law_cut : FnScope ["_law_row_here", "_law_many"] ["_law_row_here"] (defScope (top 35)) := ⟨rfl, rfl, rfl, by decide +kernel, rfl, by decide +kernel, by decide +kernel⟩
theorem ok__law_cut (F : FnW K "_law_cut" (top 35)) (hm : mg "_law_cut" = some (.ref (He.ga K "_law_cut"))) (g_tuple : mg "tuple" = none) (g_len : mg "len" = none) : Kn P w K mg base "_law_cut" 1 ["_law_row_here"] f__law_cut := by
  have sc := sc__law_cut
  refine kn_ok F hm sc (fun _ _ _ _ _ _ us hl => match us, hl with | [_], _ => rfl) (k := 0) fun cdv A outer s H E hr tk hp hu hu1 => ?_
  exact (jss_cons (js_set sc.nd (i := 1) rfl (by first | exact Or.inl rfl | exact Or.inr rfl) (je_b1 call_len k_len rfl g_len (by kernel_rfl) (jb_var 0)))
  (jss_cons (js_while hp (JW.jt (jw_and (jt_cmp op_gt k_gt (je_var 1) je_int (nomark _)) (jw_and1 (jt_cmp (op_eqX hu) k_eq (je_ixV 0 (je_bin op_sub k_sub (je_var 1) je_int)) je_int (nomark _))))) (jss_one (js_set sc.nd (i := 1) rfl (by first | exact Or.inl rfl | exact Or.inr rfl) (je_bin op_sub k_sub (je_var 1) je_int))))
  (jss_one (js_ret (je_t1 call_tuple_of k_tuple rfl g_tuple (by kernel_rfl) (jb_of (je_slN 0 jo_none (jo_some (je_var 1)))))))))
theorem sc__law_whole : FnScope ["_law_value"] ["_law_value"] (defScope (top 31)) := ⟨rfl, rfl, rfl, by decide +kernel, rfl, by decide +kernel, by decide +kernel⟩
theorem ok__law_whole (F : FnW K "_law_whole" (top 31)) (hm : mg "_law_whole" = some (.ref (He.ga K "_law_whole"))) (g_isinstance : mg "isinstance" = none) (g_bool : mg "bool" = none) (g_int : mg "int" = none) : Kn P w K mg base "_law_whole" 1 ["_law_value"] f__law_whole := by
  have sc := sc__law_whole
  refine kn_ok F hm sc (fun _ _ _ _ _ _ us hl => match us, hl with | [_], _ => rfl) (k := 0) fun cdv A outer s H E hr tk hp hu hu1 => ?_
  exact (jss_one (js_ret (je_and (je_isi (T := "int") (by decide) rfl g_isinstance rfl g_int (by kernel_rfl) (jb_var 0)) (je_one (je_not (je_isi (T := "bool") (by decide) rfl g_isinstance rfl g_bool (by kernel_rfl) (jb_var 0)))))))
theorem sc__law_size_is : FnScope ["_law_size", "_law_row_here", "_law_told", "_law_amount"] ["_law_size", "_law_row_here"] (defScope (top 37)) := ⟨rfl, rfl, rfl, by decide +kernel, rfl, by decide +kernel, by decide +kernel⟩
theorem ok__law_size_is (F : FnW K "_law_size_is" (top 37)) (hm : mg "_law_size_is" = some (.ref (He.ga K "_law_size_is"))) (C_Size : KC K mg "Size") (c__law_whole : Kn P w K mg base "_law_whole" 1 ["_law_value"] f__law_whole) (g_all : mg "all" = none) (g_isinstance : mg "isinstance" = none) (g_tuple : mg "tuple" = none) (na_Size_row : NoAttr K (He.ga K "Size") "row") : Kn P w K mg base "_law_size_is" 2 ["_law_size", "_law_row_here"] f__law_size_is := by
  have sc := sc__law_size_is
  refine kn_ok F hm sc (fun _ _ _ _ _ _ us hl => match us, hl with | [_, _], _ => rfl) (k := 1) fun cdv A outer s H E hr tk hp hu hu1 => ?_
  exact (jss_cons (js_set sc.nd (i := 2) rfl (by first | exact Or.inl rfl | exact Or.inr rfl) (je_fld C_Size.cl na_Size_row (je_var 0)))
  (jss_one (js_ret (je_and (je_isi (T := "tuple") (by decide) rfl g_isinstance rfl g_tuple (by kernel_rfl) (jb_var 2)) (je_and (je_cmp (op_eqX hu) k_eq (je_var 2) (je_var 1) (nomark _)) (je_one (je_b1 (cr_all rfl) k_all rfl g_all (by kernel_rfl) (jb_new (jf_lc (own := [("_law_amount", 3)]) rfl sc.nd (ji_seq (je_var 2)) (blk_ok (by kernel_rfl)) (fun s2 H2 C2 cl2 fp2 => (jg_name sc.nd rfl (by first | exact Or.inl rfl | exact Or.inr rfl))) (fun s2 H2 C2 cl2 fp2 => jts_nil) (fun s2 H2 C2 cl2 fp2 => (je_callK c__law_whole (hr.mono (by omega)) tkF rfl (ja_cons (je_var 3) ja_nil))))))))))))
theorem sc_Size___floordiv__ : FnScope ["self", "k", "number"] ["self", "k"] (defScope (clsDef (top 26) 18)) := ⟨rfl, rfl, rfl, by decide +kernel, rfl, by decide +kernel, by decide +kernel⟩
theorem ok_Size___floordiv__ (F : MtW K "Size" "__floordiv__" "Size.__floordiv__" (clsDef (top 26) 18) []) (C_Size : KC K mg "Size") (c_Size___init__ : KnM P w K mg base "Size" "__init__" 3 ["self", "row"] f_Size___init__) (c_is_whole : Kn P w K mg base "is_whole" 1 ["value"] f_is_whole) (g_all : mg "all" = none) (n_NotExact : mg "NotExact" = some (.ref (He.ga K "NotExact"))) (x_NotExact : XN P K mg "NotExact" ["by"]) (n_BadValue : mg "BadValue" = some (.ref (He.ga K "BadValue"))) (x_BadValue : XN P K mg "BadValue" ["shown"]) (na_Size_row : NoAttr K (He.ga K "Size") "row") : KnM P w K mg base "Size" "__floordiv__" 5 ["self", "k"] f_Size___floordiv__ := by
  have sc := sc_Size___floordiv__
  refine knM_ok F sc (fun fd F => F.bindsN fun _ _ _ _ _ _ us hl => match us, hl with | [_, _], _ => rfl) (k := 4) fun cdv A outer s H E hr tk hp hu hu1 => ?_
  exact (jss_cons (js_if (JW.jt (jw_or (jt_not (jt_truth (je_callK c_is_whole (hr.mono (by omega)) tk rfl (ja_cons (je_var 1) ja_nil)))) (jw_or1 (jt_cmp (op_eqX hu) k_eq (je_var 1) je_int (nomark _))))) (jss_one (js_raiseN rfl x_BadValue.1 n_BadValue hr tk (ja_cons (je_var 1) ja_nil) rfl)) jss_nil)
  (jss_cons (js_if (jt_not (jt_truth (je_b1 (cr_all rfl) k_all rfl g_all (by kernel_rfl) (jb_new (jf_lc (own := [("number", 2)]) rfl sc.nd (ji_seq (je_fld C_Size.cl na_Size_row (je_var 0))) (blk_ok (by kernel_rfl)) (fun s2 H2 C2 cl2 fp2 => (jg_name sc.nd rfl (by first | exact Or.inl rfl | exact Or.inr rfl))) (fun s2 H2 C2 cl2 fp2 => jts_nil) (fun s2 H2 C2 cl2 fp2 => (je_cmp (op_eqX hu) k_eq (je_bin op_modN k_modN (je_var 2) (je_var 1)) je_int (nomark _)))))))) (jss_one (js_raiseN rfl x_NotExact.1 n_NotExact hr tk (ja_cons (je_var 1) ja_nil) rfl)) jss_nil)
  (jss_one (js_ret (je_makeK C_Size c_Size___init__ (hr.mono (by omega)) tk rfl (ja_cons (je_fz (jf_lc (own := [("number", 2)]) rfl sc.nd (ji_seq (je_fld C_Size.cl na_Size_row (je_var 0))) (blk_ok (by kernel_rfl)) (fun s2 H2 C2 cl2 fp2 => (jg_name sc.nd rfl (by first | exact Or.inl rfl | exact Or.inr rfl))) (fun s2 H2 C2 cl2 fp2 => jts_nil) (fun s2 H2 C2 cl2 fp2 => (je_bin op_divX k_divX (je_var 2) (je_var 1))))) ja_nil))))))
theorem sc__law_draw : FnScope ["_law_pen_here", "_law_many", "_law_digit", "_law_spot", "_law_size", "_law_cell", "_law_stir"] ["_law_pen_here", "_law_many"] (defScope (top 29)) := ⟨rfl, rfl, rfl, by decide +kernel, rfl, by decide +kernel, by decide +kernel⟩
theorem ok__law_draw (F : FnW K "_law_draw" (top 29)) (hm : mg "_law_draw" = some (.ref (He.ga K "_law_draw"))) (g_int : mg "int" = none) (g_abs : mg "abs" = none) (g_len : mg "len" = none) : Kn P w K mg base "_law_draw" 1 ["_law_pen_here", "_law_many"] f__law_draw := by
  have sc := sc__law_draw
  refine kn_ok F hm sc (fun _ _ _ _ _ _ us hl => match us, hl with | [_, _], _ => rfl) (k := 0) fun cdv A outer s H E hr tk hp hu hu1 => ?_
  exact (jss_cons (js_if (jt_cmp op_gt k_gt (je_get (k := .inr "rest") hu1 (je_var 0) pe_str) je_int (nomark _)) (jss_cons (js_set sc.nd (i := 2) rfl (by first | exact Or.inl rfl | exact Or.inr rfl) (je_bin op_mod k_mod (je_t1 call_int1 k_int rfl g_int (by kernel_rfl) (jb_of (je_get (k := .inr "rest") hu1 (je_var 0) pe_str))) (je_var 1)))
  (jss_cons (js_put (k := .inr "rest") hu1 (je_var 0) pe_str (je_bin op_fdivW k_div (je_get (k := .inr "rest") hu1 (je_var 0) pe_str) (je_var 1)))
  (jss_one (js_ret (je_var 2))))) jss_nil)
  (jss_cons (js_par rfl sc.nd (i := 3) (j := 4) rfl rfl (by decide) rfl rfl (ja_cons (je_get (k := .inr "begun") hu1 (je_var 0) pe_str) (ja_cons (je_b1 call_len k_len rfl g_len (by kernel_rfl) (jb_of (je_get (k := .inr "cells") hu1 (je_var 0) pe_str))) ja_nil)) rfl)
  (jss_cons (js_put (k := .inr "begun") hu1 (je_var 0) pe_str (je_bin op_addX k_addX (je_var 3) je_int))
  (jss_cons (js_set sc.nd (i := 5) rfl (by first | exact Or.inl rfl | exact Or.inr rfl) (je_bin op_addX k_addX (je_bin op_mulX k_mulX je_int (je_var 3)) je_int))
  (jss_cons (js_if (jt_cmp op_gt k_gt (je_var 4) je_int (nomark _)) (jss_one (js_set sc.nd (i := 5) rfl (by first | exact Or.inl rfl | exact Or.inr rfl) (je_ix (je_get (k := .inr "cells") hu1 (je_var 0) pe_str) (je_bin op_mod k_mod (je_t1 call_int1 k_int rfl g_int (by kernel_rfl) (jb_var 3)) (je_var 4))))) jss_nil)
  (jss_cons (js_if (JW.jt (jw_and (jt_cmp op_lt k_lt (je_var 3) (je_var 4) (nomark _)) (jw_and1 (jt_cmp op_ge k_ge (je_b1 call_abs k_abs rfl g_abs (by kernel_rfl) (jb_var 5)) (je_bin op_pow k_pow je_int je_int) (nomark _))))) (jss_cons (js_put (k := .inr "rest") hu1 (je_var 0) pe_str (je_bin op_fdivW k_div (je_bin op_sub k_sub (je_b1 call_abs k_abs rfl g_abs (by kernel_rfl) (jb_var 5)) (je_bin op_pow k_pow je_int je_int)) (je_var 1)))
  (jss_one (js_ret (je_bin op_mod k_mod (je_bin op_sub k_sub (je_b1 call_abs k_abs rfl g_abs (by kernel_rfl) (jb_var 5)) (je_bin op_pow k_pow je_int je_int)) (je_var 1))))) jss_nil)
  (jss_cons (js_set sc.nd (i := 6) rfl (by first | exact Or.inl rfl | exact Or.inr rfl) (je_bin op_mod k_mod (je_t1 call_int1 k_int rfl g_int (by kernel_rfl) (jb_of (je_bin op_addX k_addX (je_bin op_addX k_addX (je_bin op_mulX k_mulX (je_bin op_mod k_mod (je_t1 call_int1 k_int rfl g_int (by kernel_rfl) (jb_var 5)) je_int) je_int) (je_bin op_mulX k_mulX (je_bin op_mulX k_mulX je_int (je_var 3)) (je_var 3))) je_int))) je_int))
  (jss_cons (js_set sc.nd (i := 6) rfl (by first | exact Or.inl rfl | exact Or.inr rfl) (je_bin op_mod k_mod (je_t1 call_int1 k_int rfl g_int (by kernel_rfl) (jb_of (je_bin op_addX k_addX (je_bin op_addX k_addX (je_bin op_addX k_addX (je_bin op_mulX k_mulX (je_var 6) (je_var 6)) (je_bin op_mulX k_mulX je_int (je_var 6))) (je_bin op_mulX k_mulX je_int (je_var 3))) je_int))) je_int))
  (jss_cons (js_set sc.nd (i := 6) rfl (by first | exact Or.inl rfl | exact Or.inr rfl) (je_bin op_fdivW k_div (je_bin op_mod k_mod (je_t1 call_int1 k_int rfl g_int (by kernel_rfl) (jb_of (je_bin op_mulX k_mulX (je_var 6) (je_bin op_addX k_addX (je_var 6) je_int)))) je_int) je_int))
  (jss_one (js_ret (je_bin op_mod k_mod (je_t1 call_int1 k_int rfl g_int (by kernel_rfl) (jb_var 6)) (je_var 1)))))))))))))
theorem sc__law_pick : FnScope ["_law_pen_here", "_law_options"] ["_law_pen_here", "_law_options"] (defScope (top 30)) := ⟨rfl, rfl, rfl, by decide +kernel, rfl, by decide +kernel, by decide +kernel⟩
theorem ok__law_pick (F : FnW K "_law_pick" (top 30)) (hm : mg "_law_pick" = some (.ref (He.ga K "_law_pick"))) (c__law_draw : Kn P w K mg base "_law_draw" 1 ["_law_pen_here", "_law_many"] f__law_draw) (g_len : mg "len" = none) : Kn P w K mg base "_law_pick" 2 ["_law_pen_here", "_law_options"] f__law_pick := by
  have sc := sc__law_pick
  refine kn_ok F hm sc (fun _ _ _ _ _ _ us hl => match us, hl with | [_, _], _ => rfl) (k := 1) fun cdv A outer s H E hr tk hp hu hu1 => ?_
  exact (jss_one (js_ret (je_ixV 1 (je_callK c__law_draw (hr.mono (by omega)) tk rfl (ja_cons (je_var 0) (ja_cons (je_b1 call_len k_len rfl g_len (by kernel_rfl) (jb_var 1)) ja_nil))))))
theorem sc__law_odd : FnScope ["_law_pen_here"] ["_law_pen_here"] (defScope (top 39)) := ⟨rfl, rfl, rfl, by decide +kernel, rfl, by decide +kernel, by decide +kernel⟩
theorem ok__law_odd (F : FnW K "_law_odd" (top 39)) (hm : mg "_law_odd" = some (.ref (He.ga K "_law_odd"))) (c__law_pick : Kn P w K mg base "_law_pick" 2 ["_law_pen_here", "_law_options"] f__law_pick) : Kn P w K mg base "_law_odd" 3 ["_law_pen_here"] f__law_odd := by
  have sc := sc__law_odd
  refine kn_ok F hm sc (fun _ _ _ _ _ _ us hl => match us, hl with | [_], _ => rfl) (k := 2) fun cdv A outer s H E hr tk hp hu hu1 => ?_
  exact (jss_one (js_ret (je_callK c__law_pick (hr.mono (by omega)) tk rfl (ja_cons (je_var 0) (ja_cons (je_fz (jf_lst (ja_cons je_bl (ja_cons je_bl (ja_cons je_non (ja_cons je_str (ja_cons je_str (ja_cons (je_tup (ja_cons je_int ja_nil)) (ja_cons (je_fz (jf_lst ja_nil)) (ja_cons (je_tup ja_nil) (ja_cons (je_fz (jf_lst (ja_cons je_int (ja_cons je_int ja_nil)))) ja_nil))))))))))) ja_nil)))))
theorem sc__law_great : FnScope ["_law_pen_here", "_law_many", "_law_amount", "_law_size"] ["_law_pen_here", "_law_many"] (defScope (top 32)) := ⟨rfl, rfl, rfl, by decide +kernel, rfl, by decide +kernel, by decide +kernel⟩
theorem ok__law_great (F : FnW K "_law_great" (top 32)) (hm : mg "_law_great" = some (.ref (He.ga K "_law_great"))) (c__law_draw : Kn P w K mg base "_law_draw" 1 ["_law_pen_here", "_law_many"] f__law_draw) (g_int : mg "int" = none) : Kn P w K mg base "_law_great" 2 ["_law_pen_here", "_law_many"] f__law_great := by
  have sc := sc__law_great
  refine kn_ok F hm sc (fun _ _ _ _ _ _ us hl => match us, hl with | [_, _], _ => rfl) (k := 1) fun cdv A outer s H E hr tk hp hu hu1 => ?_
  exact (jss_cons (js_asg (je_tup (ja_cons je_int (ja_cons je_int ja_nil))) (jg_tl rfl (jgs_cons (jg_name sc.nd rfl (by first | exact Or.inl rfl | exact Or.inr rfl)) (jgs_cons (jg_name sc.nd rfl (by first | exact Or.inl rfl | exact Or.inr rfl)) jgs_nil))))
  (jss_cons (js_while hp (jt_cmp op_lt k_lt (je_var 3) (je_var 1) (nomark _)) (jss_one (js_par rfl sc.nd (i := 2) (j := 3) rfl rfl (by decide) rfl rfl (ja_cons (je_bin op_addX k_addX (je_bin op_mulX k_mulX (je_var 2) (je_bin op_pow k_pow je_int je_int)) (je_callK c__law_draw (hr.mono (by omega)) tk rfl (ja_cons (je_var 0) (ja_cons (je_bin op_pow k_pow je_int je_int) ja_nil)))) (ja_cons (je_bin op_mulX k_mulX (je_var 3) (je_bin op_pow k_pow je_int je_int)) ja_nil)) rfl)))
  (jss_one (js_ret (je_bin op_mod k_mod (je_t1 call_int1 k_int rfl g_int (by kernel_rfl) (jb_var 2)) (je_var 1))))))
theorem sc__law_integer : FnScope ["_law_pen_here", "_law_way", "_law_side"] ["_law_pen_here"] (defScope (top 33)) := ⟨rfl, rfl, rfl, by decide +kernel, rfl, by decide +kernel, by decide +kernel⟩
theorem ok__law_integer (F : FnW K "_law_integer" (top 33)) (hm : mg "_law_integer" = some (.ref (He.ga K "_law_integer"))) (c__law_draw : Kn P w K mg base "_law_draw" 1 ["_law_pen_here", "_law_many"] f__law_draw) (c__law_great : Kn P w K mg base "_law_great" 2 ["_law_pen_here", "_law_many"] f__law_great) : Kn P w K mg base "_law_integer" 3 ["_law_pen_here"] f__law_integer := by
  have sc := sc__law_integer
  refine kn_ok F hm sc (fun _ _ _ _ _ _ us hl => match us, hl with | [_], _ => rfl) (k := 2) fun cdv A outer s H E hr tk hp hu hu1 => ?_
  exact (jss_cons (js_par rfl sc.nd (i := 1) (j := 2) rfl rfl (by decide) rfl rfl (ja_cons (je_callK c__law_draw (hr.mono (by omega)) tk rfl (ja_cons (je_var 0) (ja_cons je_int ja_nil))) (ja_cons (je_bin op_sub k_sub je_int (je_bin op_mulX k_mulX je_int (je_callK c__law_draw (hr.mono (by omega)) tk rfl (ja_cons (je_var 0) (ja_cons je_int ja_nil))))) ja_nil)) rfl)
  (jss_cons (js_if (jt_cmp (op_eqX hu) k_eq (je_var 1) je_int (nomark _)) (jss_one (js_ret je_int)) jss_nil)
  (jss_cons (js_if (jt_cmp op_lt k_lt (je_var 1) je_int (nomark _)) (jss_one (js_ret (je_bin op_mulX k_mulX (je_var 2) (je_callK c__law_draw (hr.mono (by omega)) tk rfl (ja_cons (je_var 0) (ja_cons je_int ja_nil)))))) jss_nil)
  (jss_cons (js_if (jt_cmp (op_eqX hu) k_eq (je_var 1) je_int (nomark _)) (jss_one (js_ret (je_bin op_mulX k_mulX (je_var 2) (je_callK c__law_draw (hr.mono (by omega)) tk rfl (ja_cons (je_var 0) (ja_cons je_int ja_nil)))))) jss_nil)
  (jss_one (js_ret (je_bin op_mulX k_mulX (je_var 2) (je_if (jt_cmp (op_eqX hu) k_eq (je_var 1) je_int (nomark _)) (je_bin op_sub k_sub (je_bin op_pow k_pow je_int je_int) (je_callK c__law_draw (hr.mono (by omega)) tk rfl (ja_cons (je_var 0) (ja_cons je_int ja_nil)))) (je_callK c__law_great (hr.mono (by omega)) tk rfl (ja_cons (je_var 0) (ja_cons (je_bin op_pow k_pow je_int je_int) ja_nil)))))))))))
theorem sc__law_row : FnScope ["_law_pen_here", "_law_most", "_law_k"] ["_law_pen_here", "_law_most"] (defScope (top 36)) := ⟨rfl, rfl, rfl, by decide +kernel, rfl, by decide +kernel, by decide +kernel⟩
theorem ok__law_row (F : FnW K "_law_row" (top 36)) (hm : mg "_law_row" = some (.ref (He.ga K "_law_row"))) (c__law_draw : Kn P w K mg base "_law_draw" 1 ["_law_pen_here", "_law_many"] f__law_draw) (c__law_integer : Kn P w K mg base "_law_integer" 3 ["_law_pen_here"] f__law_integer) (g_range : mg "range" = none) : Kn P w K mg base "_law_row" 4 ["_law_pen_here", "_law_most"] f__law_row := by
  have sc := sc__law_row
  refine kn_ok F hm sc (fun _ _ _ _ _ _ us hl => match us, hl with | [_, _], _ => rfl) (k := 3) fun cdv A outer s H E hr tk hp hu hu1 => ?_
  exact (jss_one (js_ret (je_fz (jf_bin op_cat k_laddF (je_fz (jf_lc (own := [("_law_k", 2)]) rfl sc.nd (ji_range1 rfl g_range (ja_cons (je_callK c__law_draw (hr.mono (by omega)) tk rfl (ja_cons (je_var 0) (ja_cons (je_var 1) ja_nil))) ja_nil)) (blk_ok (by kernel_rfl)) (fun s2 H2 C2 cl2 fp2 => (jg_name sc.nd rfl (by first | exact Or.inl rfl | exact Or.inr rfl))) (fun s2 H2 C2 cl2 fp2 => jts_nil) (fun s2 H2 C2 cl2 fp2 => (je_callK c__law_integer (hr.mono (by omega)) tkF rfl (ja_cons (je_var 0) ja_nil))))) (je_fz (jf_bin op_rep k_lrepF (je_fz (jf_lst (ja_cons je_int ja_nil))) (je_bin op_fdivW k_div (je_callK c__law_draw (hr.mono (by omega)) tk rfl (ja_cons (je_var 0) (ja_cons je_int ja_nil))) je_int)))))))
theorem sc__law_odd_row : FnScope ["_law_pen_here", "_law_odd_here", "_law_row_here", "_law_at", "_law_wrong"] ["_law_pen_here"] (defScope (top 42)) := ⟨rfl, rfl, rfl, by decide +kernel, rfl, by decide +kernel, by decide +kernel⟩
theorem ok__law_odd_row (F : FnW K "_law_odd_row" (top 42)) (hm : mg "_law_odd_row" = some (.ref (He.ga K "_law_odd_row"))) (c__law_pick : Kn P w K mg base "_law_pick" 2 ["_law_pen_here", "_law_options"] f__law_pick) (c__law_draw : Kn P w K mg base "_law_draw" 1 ["_law_pen_here", "_law_many"] f__law_draw) (c__law_row : Kn P w K mg base "_law_row" 4 ["_law_pen_here", "_law_most"] f__law_row) (g_tuple : mg "tuple" = none) (g_len : mg "len" = none) : Kn P w K mg base "_law_odd_row" 5 ["_law_pen_here"] f__law_odd_row := by
  have sc := sc__law_odd_row
  refine kn_ok F hm sc (fun _ _ _ _ _ _ us hl => match us, hl with | [_], _ => rfl) (k := 4) fun cdv A outer s H E hr tk hp hu hu1 => ?_
  exact (jss_cons (js_set sc.nd (i := 1) rfl (by first | exact Or.inl rfl | exact Or.inr rfl) (je_callK c__law_pick (hr.mono (by omega)) tk rfl (ja_cons (je_var 0) (ja_cons (je_fz (jf_lst (ja_cons je_bl (ja_cons je_non (ja_cons je_str (ja_cons (je_tup (ja_cons je_int ja_nil)) (ja_cons (je_fz (jf_lst ja_nil)) ja_nil))))))) ja_nil))))
  (jss_cons (js_set sc.nd (i := 2) rfl (by first | exact Or.inl rfl | exact Or.inr rfl) (je_callK c__law_row (hr.mono (by omega)) tk rfl (ja_cons (je_var 0) (ja_cons je_int ja_nil))))
  (jss_cons (js_set sc.nd (i := 3) rfl (by first | exact Or.inl rfl | exact Or.inr rfl) (je_callK c__law_draw (hr.mono (by omega)) tk rfl (ja_cons (je_var 0) (ja_cons (je_bin op_addX k_addX (je_b1 call_len k_len rfl g_len (by kernel_rfl) (jb_var 2)) je_int) ja_nil))))
  (jss_cons (js_own sc.nd (i := 4) rfl (by first | exact Or.inl rfl | exact Or.inr rfl) (jf_bin op_cat k_laddF (je_fz (jf_bin op_cat k_laddF (je_slN 2 jo_none (jo_some (je_var 3))) (je_fz (jf_lst (ja_cons (je_var 1) ja_nil))))) (je_slN 2 (jo_some (je_var 3)) jo_none)))
  (jss_one (js_ret (je_callK c__law_pick (hr.mono (by omega)) tk rfl (ja_cons (je_var 0) (ja_cons (je_fz (jf_lst (ja_cons je_non (ja_cons je_int (ja_cons je_str (ja_cons je_bl (ja_cons (je_var 4) (ja_cons (je_var 4) (ja_cons (je_t1 call_tuple_of k_tuple rfl g_tuple (by kernel_rfl) (jb_var 4)) ja_nil))))))))) ja_nil)))))))))
theorem sc__law_far : FnScope ["_law_pen_here", "_law_way"] ["_law_pen_here"] (defScope (top 34)) := ⟨rfl, rfl, rfl, by decide +kernel, rfl, by decide +kernel, by decide +kernel⟩
theorem ok__law_far (F : FnW K "_law_far" (top 34)) (hm : mg "_law_far" = some (.ref (He.ga K "_law_far"))) (c__law_great : Kn P w K mg base "_law_great" 2 ["_law_pen_here", "_law_many"] f__law_great) (c__law_draw : Kn P w K mg base "_law_draw" 1 ["_law_pen_here", "_law_many"] f__law_draw) : Kn P w K mg base "_law_far" 3 ["_law_pen_here"] f__law_far := by
  have sc := sc__law_far
  refine kn_ok F hm sc (fun _ _ _ _ _ _ us hl => match us, hl with | [_], _ => rfl) (k := 2) fun cdv A outer s H E hr tk hp hu hu1 => ?_
  exact (jss_cons (js_set sc.nd (i := 1) rfl (by first | exact Or.inl rfl | exact Or.inr rfl) (je_callK c__law_draw (hr.mono (by omega)) tk rfl (ja_cons (je_var 0) (ja_cons je_int ja_nil))))
  (jss_cons (js_if (jt_cmp op_lt k_lt (je_var 1) je_int (nomark _)) (jss_one (js_ret (je_callK c__law_draw (hr.mono (by omega)) tk rfl (ja_cons (je_var 0) (ja_cons je_int ja_nil))))) jss_nil)
  (jss_one (js_ret (je_if (jt_cmp (op_eqX hu) k_eq (je_var 1) je_int (nomark _)) (je_callK c__law_great (hr.mono (by omega)) tk rfl (ja_cons (je_var 0) (ja_cons (je_bin op_pow k_pow je_int je_int) ja_nil))) (je_bin op_sub k_sub (je_bin op_mulX k_mulX (je_bin op_pow k_pow je_int je_int) (je_bin op_pow k_pow je_int je_int)) (je_callK c__law_draw (hr.mono (by omega)) tk rfl (ja_cons (je_var 0) (ja_cons je_int ja_nil)))))))))
theorem sc__law_cases : FnScope ["_law_pen_here", "_law_size", "_law_odd_here", "_law_wrong", "_law_low", "_law_n", "_law_text"] ["_law_pen_here", "_law_size"] (defScope (top 43)) := ⟨rfl, rfl, rfl, by decide +kernel, rfl, by decide +kernel, by decide +kernel⟩
theorem ok__law_cases (F : FnW K "_law_cases" (top 43)) (hm : mg "_law_cases" = some (.ref (He.ga K "_law_cases"))) (c__law_odd : Kn P w K mg base "_law_odd" 3 ["_law_pen_here"] f__law_odd) (c__law_odd_row : Kn P w K mg base "_law_odd_row" 5 ["_law_pen_here"] f__law_odd_row) (c__law_far : Kn P w K mg base "_law_far" 3 ["_law_pen_here"] f__law_far) (c__law_pick : Kn P w K mg base "_law_pick" 2 ["_law_pen_here", "_law_options"] f__law_pick) (lk_ : LamOk K mg base "_law_cases") : Kn P w K mg base "_law_cases" 6 ["_law_pen_here", "_law_size"] f__law_cases := by
  have sc := sc__law_cases
  refine kn_okClo F hm lk_ sc (cs := ["_law_size", "_law_odd_here", "_law_wrong", "_law_low", "_law_n", "_law_text"]) (by kernel_rfl) (fun _ _ _ _ _ _ us hl => match us, hl with | [_, _], _ => rfl) (k := 5) (m := m__law_cases) fun c0 P0 TB hql hul A outer s H E hr tk hp hu hu1 => ?_
  exact (jc_cons (js_asg (je_tup (ja_cons (je_callK c__law_odd (hr.mono (by omega)) tk rfl (ja_cons (je_var 0) ja_nil)) (ja_cons (je_callK c__law_odd_row (hr.mono (by omega)) tk rfl (ja_cons (je_var 0) ja_nil)) ja_nil))) (jg_tl rfl (jgs_cons (jg_name sc.nd rfl (by first | exact Or.inl rfl | exact Or.inr rfl)) (jgs_cons (jg_name sc.nd rfl (by first | exact Or.inl rfl | exact Or.inr rfl)) jgs_nil))))
  (jc_cons (js_asg (je_tup (ja_cons (je_bin op_sub k_sub (je_neg je_int) (je_callK c__law_far (hr.mono (by omega)) tk rfl (ja_cons (je_var 0) ja_nil))) (ja_cons (je_bin op_addX k_addX je_int (je_callK c__law_far (hr.mono (by omega)) tk rfl (ja_cons (je_var 0) ja_nil))) ja_nil))) (jg_tl rfl (jgs_cons (jg_name sc.nd rfl (by first | exact Or.inl rfl | exact Or.inr rfl)) (jgs_cons (jg_name sc.nd rfl (by first | exact Or.inl rfl | exact Or.inr rfl)) jgs_nil))))
  (jc_cons (js_set sc.nd (i := 6) rfl (by first | exact Or.inl rfl | exact Or.inr rfl) (je_callK c__law_pick (hr.mono (by omega)) tk rfl (ja_cons (je_var 0) (ja_cons (je_fz (jf_lst (ja_cons je_bl (ja_cons je_str (ja_cons (je_tup (ja_cons je_int ja_nil)) (ja_cons (je_bin op_sub k_sub (je_var 5) je_int) (ja_cons (je_neg (je_var 5)) ja_nil))))))) ja_nil))))
  (jc_ret (je_fz (jf_lst (ja_cons (je_tup (ja_cons (je_lamW TB rfl rfl hql hul (LamX.lamS_by (by kernel_rfl)) rfl (by kernel_rfl)) (ja_cons (je_var 3) ja_nil))) (ja_cons (je_tup (ja_cons (je_lamW TB rfl rfl hql hul (LamX.lamS_by (by kernel_rfl)) rfl (by kernel_rfl)) (ja_cons (je_var 2) ja_nil))) (ja_cons (je_tup (ja_cons (je_lamW TB rfl rfl hql hul (LamX.lamS_by (by kernel_rfl)) rfl (by kernel_rfl)) (ja_cons (je_var 3) ja_nil))) (ja_cons (je_tup (ja_cons (je_lamW TB rfl rfl hql hul (LamX.lamS_by (by kernel_rfl)) rfl (by kernel_rfl)) (ja_cons (je_var 4) ja_nil))) (ja_cons (je_tup (ja_cons (je_lamW TB rfl rfl hql hul (LamX.lamS_by (by kernel_rfl)) rfl (by kernel_rfl)) (ja_cons (je_var 2) ja_nil))) (ja_cons (je_tup (ja_cons (je_lamW TB rfl rfl hql hul (LamX.lamS_by (by kernel_rfl)) rfl (by kernel_rfl)) (ja_cons (je_var 2) ja_nil))) (ja_cons (je_tup (ja_cons (je_lamW TB rfl rfl hql hul (LamX.lamS_by (by kernel_rfl)) rfl (by kernel_rfl)) (ja_cons (je_var 4) ja_nil))) (ja_cons (je_tup (ja_cons (je_lamW TB rfl rfl hql hul (LamX.lamS_by (by kernel_rfl)) rfl (by kernel_rfl)) (ja_cons (je_var 2) ja_nil))) (ja_cons (je_tup (ja_cons (je_lamW TB rfl rfl hql hul (LamX.lamS_by (by kernel_rfl)) rfl (by kernel_rfl)) (ja_cons je_int ja_nil))) (ja_cons (je_tup (ja_cons (je_lamW TB rfl rfl hql hul (LamX.lamS_by (by kernel_rfl)) rfl (by kernel_rfl)) (ja_cons (je_var 2) ja_nil))) (ja_cons (je_tup (ja_cons (je_lamW TB rfl rfl hql hul (LamX.lamS_by (by kernel_rfl)) rfl (by kernel_rfl)) (ja_cons (je_var 2) ja_nil))) (ja_cons (je_tup (ja_cons (je_lamW TB rfl rfl hql hul (LamX.lamS_by (by kernel_rfl)) rfl (by kernel_rfl)) (ja_cons (je_var 2) ja_nil))) (ja_cons (je_tup (ja_cons (je_lamW TB rfl rfl hql hul (LamX.lamS_by (by kernel_rfl)) rfl (by kernel_rfl)) (ja_cons (je_var 4) ja_nil))) (ja_cons (je_tup (ja_cons (je_lamW TB rfl rfl hql hul (LamX.lamS_by (by kernel_rfl)) rfl (by kernel_rfl)) (ja_cons (je_var 4) ja_nil))) (ja_cons (je_tup (ja_cons (je_lamW TB rfl rfl hql hul (LamX.lamS_by (by kernel_rfl)) rfl (by kernel_rfl)) (ja_cons (je_var 2) ja_nil))) (ja_cons (je_tup (ja_cons (je_lamW TB rfl rfl hql hul (LamX.lamS_by (by kernel_rfl)) rfl (by kernel_rfl)) (ja_cons (je_var 6) ja_nil))) (ja_cons (je_tup (ja_cons (je_lamW TB rfl rfl hql hul (LamX.lamS_by (by kernel_rfl)) rfl (by kernel_rfl)) (ja_cons (je_var 4) ja_nil))) (ja_cons (je_tup (ja_cons (je_lamW TB rfl rfl hql hul (LamX.lamS_by (by kernel_rfl)) rfl (by kernel_rfl)) (ja_cons (je_var 2) ja_nil))) ja_nil))))))))))))))))))))))))
theorem sc__law_alike : FnScope ["_law_told", "_law_wished", "_law_one", "_law_other"] ["_law_told", "_law_wished"] (defScope (top 40)) := ⟨rfl, rfl, rfl, by decide +kernel, rfl, by decide +kernel, by decide +kernel⟩
theorem okr__law_alike (F : FnW K "_law_alike" (top 40)) (hm : mg "_law_alike" = some (.ref (He.ga K "_law_alike"))) (g_len : mg "len" = none) (g_isinstance : mg "isinstance" = none) (g_list : mg "list" = none) (g_tuple : mg "tuple" = none) (g_zip : mg "zip" = none) (g_all : mg "all" = none) (g_bool : mg "bool" = none) : ∀ n, Kn P w K mg base "_law_alike" (0 + n) ["_law_told", "_law_wished"] (f__law_alike n)
  | 0 => kn_stuck F hm (fun _ _ _ _ _ _ us hl => match us, hl with | [_, _], _ => rfl)
  | n + 1 => by
    have ih := okr__law_alike F hm g_len g_isinstance g_list g_tuple g_zip g_all g_bool n
    have sc := sc__law_alike
    refine kn_ok F hm sc (fun _ _ _ _ _ _ us hl => match us, hl with | [_, _], _ => rfl) (k := 0 + n) (m := m__law_alike (f__law_alike n)) fun cdv A outer s H E hr tk hp hu hu1 => ?_
    exact (jss_cons (js_if (JW.jt (jw_or (jt_cmp (op_neX hu) k_ne (je_isi (T := "bool") (by decide) rfl g_isinstance rfl g_bool (by kernel_rfl) (jb_var 0)) (je_isi (T := "bool") (by decide) rfl g_isinstance rfl g_bool (by kernel_rfl) (jb_var 1)) (nomark _)) (jw_or1 (jt_cmp (op_neX hu) k_ne (je_isi (T := "list") (by decide) rfl g_isinstance rfl g_list (by kernel_rfl) (jb_var 0)) (je_isi (T := "list") (by decide) rfl g_isinstance rfl g_list (by kernel_rfl) (jb_var 1)) (nomark _))))) (jss_one (js_ret je_bl)) jss_nil)
  (jss_cons (js_if (JW.jt (jw_and (jt_truth (je_isi2 (T := "list") (U := "tuple") (by decide) (by decide) rfl g_isinstance rfl g_list (by kernel_rfl) rfl g_tuple (by kernel_rfl) (je_var 1))) (jw_and (jt_truth (je_isi2 (T := "list") (U := "tuple") (by decide) (by decide) rfl g_isinstance rfl g_list (by kernel_rfl) rfl g_tuple (by kernel_rfl) (je_var 0))) (jw_and1 (jt_cmp (op_eqX hu) k_eq (je_b1 call_len k_len rfl g_len (by kernel_rfl) (jb_var 0)) (je_b1 call_len k_len rfl g_len (by kernel_rfl) (jb_var 1)) (nomark _)))))) (jss_one (js_ret (je_b1 (cr_all rfl) k_all rfl g_all (by kernel_rfl) (jb_new (jf_lc (own := [("_law_one", 2), ("_law_other", 3)]) rfl sc.nd (ji_zipB rfl g_zip (ja_cons (je_var 0) (ja_cons (je_var 1) ja_nil))) (blk_ok (by kernel_rfl)) (fun s2 H2 C2 cl2 fp2 => (jg_tup rfl (jgs_cons (jg_name sc.nd rfl (by first | exact Or.inl rfl | exact Or.inr rfl)) (jgs_cons (jg_name sc.nd rfl (by first | exact Or.inl rfl | exact Or.inr rfl)) jgs_nil)))) (fun s2 H2 C2 cl2 fp2 => jts_nil) (fun s2 H2 C2 cl2 fp2 => (je_callK ih (hr.mono (by omega)) tkF rfl (ja_cons (je_var 2) (ja_cons (je_var 3) ja_nil))))))))) jss_nil)
  (jss_one (js_ret (je_cmp (op_eqX hu) k_eq (je_var 0) (je_var 1) (nomark _))))))
theorem ok__law_alike (F : FnW K "_law_alike" (top 40)) (hm : mg "_law_alike" = some (.ref (He.ga K "_law_alike"))) (g_len : mg "len" = none) (g_isinstance : mg "isinstance" = none) (g_list : mg "list" = none) (g_tuple : mg "tuple" = none) (g_zip : mg "zip" = none) (g_all : mg "all" = none) (g_bool : mg "bool" = none) : Kn P w K mg base "_law_alike" 8 ["_law_told", "_law_wished"] (f__law_alike 8) := okr__law_alike F hm g_len g_isinstance g_list g_tuple g_zip g_all g_bool 8
theorem sc_differences : FnScope ["values", "row", "left", "k"] ["values"] (defScope (top 12)) := ⟨rfl, rfl, rfl, by decide +kernel, rfl, by decide +kernel, by decide +kernel⟩
theorem ok_differences (F : FnW K "differences" (top 12)) (hm : mg "differences" = some (.ref (He.ga K "differences"))) (c_trimmed : Kn P w K mg base "trimmed" 1 ["row"] f_trimmed) (g_len : mg "len" = none) (g_range : mg "range" = none) (g_list : mg "list" = none) : Kn P w K mg base "differences" 2 ["values"] f_differences := by
  have sc := sc_differences
  refine kn_ok F hm sc (fun _ _ _ _ _ _ us hl => match us, hl with | [_], _ => rfl) (k := 1) fun cdv A outer s H E hr tk hp hu hu1 => ?_
  exact (jss_cons (js_own sc.nd (i := 1) rfl (by first | exact Or.inl rfl | exact Or.inr rfl) (jf_lst ja_nil))
  (jss_cons (js_own sc.nd (i := 2) rfl (by first | exact Or.inl rfl | exact Or.inr rfl) (jf_t1 call_list_of k_list rfl g_list (by kernel_rfl) (jb_var 0)))
  (jss_cons (js_while hp (jt_cmp op_gt k_gt (je_b1 call_len k_len rfl g_len (by kernel_rfl) (jb_var 2)) je_int (nomark _)) (jss_cons (js_expr (je_app (je_ixV 2 je_int)))
  (jss_one (js_own sc.nd (i := 2) rfl (by first | exact Or.inl rfl | exact Or.inr rfl) (jf_lc (own := [("k", 3)]) rfl sc.nd (ji_range1 rfl g_range (ja_cons (je_bin op_sub k_sub (je_b1 call_len k_len rfl g_len (by kernel_rfl) (jb_var 2)) je_int) ja_nil)) (blk_ok (by kernel_rfl)) (fun s2 H2 C2 cl2 fp2 => (jg_name sc.nd rfl (by first | exact Or.inl rfl | exact Or.inr rfl))) (fun s2 H2 C2 cl2 fp2 => jts_nil) (fun s2 H2 C2 cl2 fp2 => (je_bin op_sub k_sub (je_ixV 2 (je_bin op_addX k_addX (je_var 3) je_int)) (je_ixV 2 (je_var 3)))))))))
  (jss_one (js_ret (je_callK c_trimmed (hr.mono (by omega)) tk rfl (ja_cons (je_var 1) ja_nil)))))))
theorem sc_Size_through : FnScope ["cls", "start", "values"] ["cls", "start", "values"] (defScope (clsDef (top 26) 1)) := ⟨rfl, rfl, rfl, by decide +kernel, rfl, by decide +kernel, by decide +kernel⟩
theorem ok_Size_through (F : FdW K "through" "Size.through" (clsDef (top 26) 1) [] (wfC K "Size" "through")) (C_Size : KC K mg "Size") (c_differences : Kn P w K mg base "differences" 2 ["values"] f_differences) (c_row_moved : Kn P w K mg base "row_moved" 2 ["row", "by"] f_row_moved) (c_Size___init__ : KnM P w K mg base "Size" "__init__" 3 ["self", "row"] f_Size___init__) (c_whole_list : Kn P w K mg base "whole_list" 2 ["values"] f_whole_list) (c_is_whole : Kn P w K mg base "is_whole" 1 ["value"] f_is_whole) (n_BadValue : mg "BadValue" = some (.ref (He.ga K "BadValue"))) (x_BadValue : XN P K mg "BadValue" ["shown"]) : KnD P w K mg base (wfC K "Size" "through") 5 ["cls", "start", "values"] f_Size_through [] := by
  have sc := sc_Size_through
  refine knD_ok F sc (fun fd F => bd_none F fun _ _ _ _ _ _ us hl => match us, hl with | [_, _, _], _ => rfl) (fun _ => .nil) (k := 4) fun cdv A outer s H E hr tk hp hu hu1 => ?_
  exact (jss_cons (js_if (jt_not (jt_truth (je_callK c_is_whole (hr.mono (by omega)) tk rfl (ja_cons (je_var 1) ja_nil)))) (jss_one (js_raiseN rfl x_BadValue.1 n_BadValue hr tk (ja_cons (je_var 1) ja_nil) rfl)) jss_nil)
  (jss_cons (js_if (jt_not (jt_truth (je_callK c_whole_list (hr.mono (by omega)) tk rfl (ja_cons (je_var 2) ja_nil)))) (jss_one (js_raiseN rfl x_BadValue.1 n_BadValue hr tk (ja_cons (je_var 2) ja_nil) rfl)) jss_nil)
  (jss_one (js_ret (je_cls C_Size c_Size___init__ (hr.mono (by omega)) tk rfl (by first | exact Or.inl rfl | exact Or.inr (Or.inl rfl) | exact Or.inr (Or.inr rfl)) (ja_cons (je_callK c_row_moved (hr.mono (by omega)) tk rfl (ja_cons (je_callK c_differences (hr.mono (by omega)) tk rfl (ja_cons (je_var 2) ja_nil)) (ja_cons (je_neg (je_var 1)) ja_nil))) ja_nil))))))
theorem sc_falling_row : FnScope ["many", "start", "number", "k"] ["many", "start"] (defScope (top 18)) := ⟨rfl, rfl, rfl, by decide +kernel, rfl, by decide +kernel, by decide +kernel⟩
theorem ok_falling_row (F : FnW K "falling_row" (top 18)) (hm : mg "falling_row" = some (.ref (He.ga K "falling_row"))) (c_row_moved : Kn P w K mg base "row_moved" 2 ["row", "by"] f_row_moved) (g_range : mg "range" = none) : Kn P w K mg base "falling_row" 3 ["many", "start"] f_falling_row := by
  have sc := sc_falling_row
  refine kn_ok F hm sc (fun _ _ _ _ _ _ us hl => match us, hl with | [_, _], _ => rfl) (k := 2) fun cdv A outer s H E hr tk hp hu hu1 => ?_
  exact (jss_cons (js_set sc.nd (i := 2) rfl (by first | exact Or.inl rfl | exact Or.inr rfl) je_int)
  (jss_cons (js_for hp rfl (ji_range1 rfl g_range (ja_cons (je_var 0) ja_nil)) (jg_name sc.nd rfl (by first | exact Or.inl rfl | exact Or.inr rfl)) (jss_one (js_set sc.nd (i := 2) rfl (by first | exact Or.inl rfl | exact Or.inr rfl) (je_bin op_mulX k_mulX (je_var 2) (je_bin op_addX k_addX (je_var 3) je_int)))))
  (jss_one (js_ret (je_callK c_row_moved (hr.mono (by omega)) tk rfl (ja_cons (je_bin op_addX k_addX (je_bin op_mulT k_mulT (je_tup (ja_cons je_int ja_nil)) (je_var 0)) (je_tup (ja_cons (je_var 2) ja_nil))) (ja_cons (je_neg (je_var 1)) ja_nil)))))))
theorem sc_Size_falling__d : FnScope ["many", "start"] ["many", "start"] (defScope (clsDef (top 26) 2)) := ⟨rfl, rfl, rfl, by decide +kernel, rfl, by decide +kernel, by decide +kernel⟩
theorem ok_Size_falling__d (F : FdW K "falling" "Size.falling" (clsDef (top 26) 2) [(.int 0)] (wfS K "Size" "falling")) (C_Size : KC K mg "Size") (c_falling_row : Kn P w K mg base "falling_row" 3 ["many", "start"] f_falling_row) (c_Size___init__ : KnM P w K mg base "Size" "__init__" 3 ["self", "row"] f_Size___init__) (c_is_whole : Kn P w K mg base "is_whole" 1 ["value"] f_is_whole) (n_BadValue : mg "BadValue" = some (.ref (He.ga K "BadValue"))) (x_BadValue : XN P K mg "BadValue" ["shown"]) : KnD P w K mg base (wfS K "Size" "falling") 5 ["many", "start"] f_Size_falling [.int 0] := by
  have sc := sc_Size_falling__d
  refine knD_ok F sc (fun fd F => bd_less (n := 1) F rfl fun _ _ _ _ _ _ _ us its hl hi => match us, hl, its, hi with | [_], _, [_], _ => ⟨_, rfl, rfl⟩) (dflI_ok _) (k := 4) fun cdv A outer s H E hr tk hp hu hu1 => ?_
  exact (jss_cons (js_if (JW.jt (jw_or (jt_not (jt_truth (je_callK c_is_whole (hr.mono (by omega)) tk rfl (ja_cons (je_var 0) ja_nil)))) (jw_or1 (jt_cmp op_lt k_lt (je_var 0) je_int (nomark _))))) (jss_one (js_raiseN rfl x_BadValue.1 n_BadValue hr tk (ja_cons (je_var 0) ja_nil) rfl)) jss_nil)
  (jss_cons (js_if (jt_not (jt_truth (je_callK c_is_whole (hr.mono (by omega)) tk rfl (ja_cons (je_var 1) ja_nil)))) (jss_one (js_raiseN rfl x_BadValue.1 n_BadValue hr tk (ja_cons (je_var 1) ja_nil) rfl)) jss_nil)
  (jss_one (js_ret (je_makeK C_Size c_Size___init__ (hr.mono (by omega)) tk rfl (ja_cons (je_callK c_falling_row (hr.mono (by omega)) tk rfl (ja_cons (je_var 0) (ja_cons (je_var 1) ja_nil))) ja_nil))))))
theorem sc_Size_falling : FnScope ["many", "start"] ["many", "start"] (defScope (clsDef (top 26) 2)) := ⟨rfl, rfl, rfl, by decide +kernel, rfl, by decide +kernel, by decide +kernel⟩
theorem ok_Size_falling (F : FdW K "falling" "Size.falling" (clsDef (top 26) 2) [(.int 0)] (wfS K "Size" "falling")) (C_Size : KC K mg "Size") (c_falling_row : Kn P w K mg base "falling_row" 3 ["many", "start"] f_falling_row) (c_Size___init__ : KnM P w K mg base "Size" "__init__" 3 ["self", "row"] f_Size___init__) (c_is_whole : Kn P w K mg base "is_whole" 1 ["value"] f_is_whole) (n_BadValue : mg "BadValue" = some (.ref (He.ga K "BadValue"))) (x_BadValue : XN P K mg "BadValue" ["shown"]) : KnD P w K mg base (wfS K "Size" "falling") 5 ["many", "start"] f_Size_falling [] := by
  have sc := sc_Size_falling
  refine knD_ok F sc (fun fd F => bd_full F fun _ _ _ _ _ _ _ us its hl hi => match us, hl, its, hi with | [_, _], _, [_], _ => ⟨_, rfl, rfl⟩) (fun _ => .nil) (k := 4) fun cdv A outer s H E hr tk hp hu hu1 => ?_
  exact (jss_cons (js_if (JW.jt (jw_or (jt_not (jt_truth (je_callK c_is_whole (hr.mono (by omega)) tk rfl (ja_cons (je_var 0) ja_nil)))) (jw_or1 (jt_cmp op_lt k_lt (je_var 0) je_int (nomark _))))) (jss_one (js_raiseN rfl x_BadValue.1 n_BadValue hr tk (ja_cons (je_var 0) ja_nil) rfl)) jss_nil)
  (jss_cons (js_if (jt_not (jt_truth (je_callK c_is_whole (hr.mono (by omega)) tk rfl (ja_cons (je_var 1) ja_nil)))) (jss_one (js_raiseN rfl x_BadValue.1 n_BadValue hr tk (ja_cons (je_var 1) ja_nil) rfl)) jss_nil)
  (jss_one (js_ret (je_makeK C_Size c_Size___init__ (hr.mono (by omega)) tk rfl (ja_cons (je_callK c_falling_row (hr.mono (by omega)) tk rfl (ja_cons (je_var 0) (ja_cons (je_var 1) ja_nil))) ja_nil))))))
theorem sc_Size___call__ : FnScope ["self", "n"] ["self", "n"] (defScope (clsDef (top 26) 4)) := ⟨rfl, rfl, rfl, by decide +kernel, rfl, by decide +kernel, by decide +kernel⟩
theorem ok_Size___call__ (F : MtW K "Size" "__call__" "Size.__call__" (clsDef (top 26) 4) []) (C_Size : KC K mg "Size") (c_row_value : Kn P w K mg base "row_value" 1 ["row", "n"] f_row_value) (c_is_whole : Kn P w K mg base "is_whole" 1 ["value"] f_is_whole) (n_BadValue : mg "BadValue" = some (.ref (He.ga K "BadValue"))) (x_BadValue : XN P K mg "BadValue" ["shown"]) (na_Size_row : NoAttr K (He.ga K "Size") "row") : KnM P w K mg base "Size" "__call__" 2 ["self", "n"] f_Size___call__ := by
  have sc := sc_Size___call__
  refine knM_ok F sc (fun fd F => F.bindsN fun _ _ _ _ _ _ us hl => match us, hl with | [_, _], _ => rfl) (k := 1) fun cdv A outer s H E hr tk hp hu hu1 => ?_
  exact (jss_cons (js_if (jt_not (jt_truth (je_callK c_is_whole (hr.mono (by omega)) tk rfl (ja_cons (je_var 1) ja_nil)))) (jss_one (js_raiseN rfl x_BadValue.1 n_BadValue hr tk (ja_cons (je_var 1) ja_nil) rfl)) jss_nil)
  (jss_one (js_ret (je_callK c_row_value (hr.mono (by omega)) tk rfl (ja_cons (je_fld C_Size.cl na_Size_row (je_var 0)) (ja_cons (je_var 1) ja_nil))))))
theorem sc_Size___lshift__ : FnScope ["self", "k"] ["self", "k"] (defScope (clsDef (top 26) 20)) := ⟨rfl, rfl, rfl, by decide +kernel, rfl, by decide +kernel, by decide +kernel⟩
theorem ok_Size___lshift__ (F : MtW K "Size" "__lshift__" "Size.__lshift__" (clsDef (top 26) 20) []) (C_Size : KC K mg "Size") (c_row_moved : Kn P w K mg base "row_moved" 2 ["row", "by"] f_row_moved) (c_Size___init__ : KnM P w K mg base "Size" "__init__" 3 ["self", "row"] f_Size___init__) (c_is_whole : Kn P w K mg base "is_whole" 1 ["value"] f_is_whole) (n_BadValue : mg "BadValue" = some (.ref (He.ga K "BadValue"))) (x_BadValue : XN P K mg "BadValue" ["shown"]) (na_Size_row : NoAttr K (He.ga K "Size") "row") : KnM P w K mg base "Size" "__lshift__" 5 ["self", "k"] f_Size___lshift__ := by
  have sc := sc_Size___lshift__
  refine knM_ok F sc (fun fd F => F.bindsN fun _ _ _ _ _ _ us hl => match us, hl with | [_, _], _ => rfl) (k := 4) fun cdv A outer s H E hr tk hp hu hu1 => ?_
  exact (jss_cons (js_if (jt_not (jt_truth (je_callK c_is_whole (hr.mono (by omega)) tk rfl (ja_cons (je_var 1) ja_nil)))) (jss_one (js_raiseN rfl x_BadValue.1 n_BadValue hr tk (ja_cons (je_var 1) ja_nil) rfl)) jss_nil)
  (jss_one (js_ret (je_makeK C_Size c_Size___init__ (hr.mono (by omega)) tk rfl (ja_cons (je_callK c_row_moved (hr.mono (by omega)) tk rfl (ja_cons (je_fld C_Size.cl na_Size_row (je_var 0)) (ja_cons (je_var 1) ja_nil))) ja_nil)))))
theorem sc_Size_signs__p1 : FnScope ["self", "start", "end"] ["self", "start", "end"] (defScope (clsDef (top 26) 21)) := ⟨rfl, rfl, rfl, by decide +kernel, rfl, by decide +kernel, by decide +kernel⟩
theorem ok_Size_signs__p1 (F : FdW K "signs" "Size.signs" (clsDef (top 26) 21) [(.int 0 : V), (.non : V)] (He.ma K (He.ga K "Size") "signs")) (C_Size : KC K mg "Size") (c_signs_of__o : KnO P w K mg base "signs_of" 4 ["row", "low", "high"] f_signs_of) (c_is_whole : Kn P w K mg base "is_whole" 1 ["value"] f_is_whole) (n_BadValue : mg "BadValue" = some (.ref (He.ga K "BadValue"))) (x_BadValue : XN P K mg "BadValue" ["shown"]) (na_Size_row : NoAttr K (He.ga K "Size") "row") : KnD P w K mg base (He.ma K (He.ga K "Size") "signs") 5 ["self", "start", "end"] f_Size_signs [.non] := by
  have sc := sc_Size_signs__p1
  refine knD_ok F sc (fun fd F => bd_any F 2 1 (by simp) (by rfl) fun _ _ _ _ _ _ _ us its hl hi => match us, hl, its, hi with | [_, _], _, [_, _], _ => ⟨_, rfl, rfl⟩) (fun _ => (.cons (.non) .nil)) (k := 4) fun cdv A outer s H E hr tk hp hu hu1 => ?_
  exact (jss_cons (js_N (js_if (JW.jt (jw_or (jt_not (jt_truth (je_callK c_is_whole (hr.mono (by omega)) tk rfl (ja_cons (je_var 1) ja_nil)))) (jw_or1 (jt_cmp op_lt k_lt (je_var 1) je_int (nomark _))))) (jss_one (js_raiseN rfl x_BadValue.1 n_BadValue hr tk (ja_cons (je_var 1) ja_nil) rfl)) jss_nil))
  (jss_cons (js_N (js_if (JW.jt (jw_and (jt_cmp op_notN k_notN (je_var 2) je_non (nomark _)) (jw_and1 (JW.jt (jw_or (jt_not (jt_truth (je_callK c_is_whole (hr.mono (by omega)) tk rfl (ja_cons (je_var 2) ja_nil)))) (jw_or1 (jt_cmp op_lt k_lt (je_var 2) (je_var 1) (nomark _)))))))) (jss_one (js_raiseN rfl x_BadValue.1 n_BadValue hr tk (ja_cons (je_var 2) ja_nil) rfl)) jss_nil))
  (jss_one (js_ret (je_fz (jf_callO c_signs_of__o (hr.mono (by omega)) tk rfl (ja_cons (je_fld C_Size.cl na_Size_row (je_var 0)) (ja_cons (je_var 1) (ja_cons (je_var 2) ja_nil)))))))))
theorem sc_Size_signs__k_end : FnScope ["self", "start", "end"] ["self", "start", "end"] (defScope (clsDef (top 26) 21)) := ⟨rfl, rfl, rfl, by decide +kernel, rfl, by decide +kernel, by decide +kernel⟩
theorem ok_Size_signs__k_end (F : FdW K "signs" "Size.signs" (clsDef (top 26) 21) [(.int 0 : V), (.non : V)] (He.ma K (He.ga K "Size") "signs")) (C_Size : KC K mg "Size") (c_signs_of__o : KnO P w K mg base "signs_of" 4 ["row", "low", "high"] f_signs_of) (c_is_whole : Kn P w K mg base "is_whole" 1 ["value"] f_is_whole) (n_BadValue : mg "BadValue" = some (.ref (He.ga K "BadValue"))) (x_BadValue : XN P K mg "BadValue" ["shown"]) (na_Size_row : NoAttr K (He.ga K "Size") "row") : KnW P w K mg base (He.ma K (He.ga K "Size") "signs") 5 ["self", "start", "end"] f_Size_signs 1 ["end"] (fun ds es => ds ++ ([.int 0] ++ es)) := by
  have sc := sc_Size_signs__k_end
  refine knW_ok F sc 1 1 ["end"] (by simp) (fun _ => (.cons (.int 0) .nil)) (fun _ _ _ _ _ _ _ us its ws hl hi hw => match us, hl, its, hi, ws, hw with | [_], _, [_, _], _, [_], _ => ⟨_, rfl, rfl⟩) (k := 4) fun cdv A outer s H E hr tk hp hu hu1 => ?_
  exact (jss_cons (js_N (js_if (JW.jt (jw_or (jt_not (jt_truth (je_callK c_is_whole (hr.mono (by omega)) tk rfl (ja_cons (je_var 1) ja_nil)))) (jw_or1 (jt_cmp op_lt k_lt (je_var 1) je_int (nomark _))))) (jss_one (js_raiseN rfl x_BadValue.1 n_BadValue hr tk (ja_cons (je_var 1) ja_nil) rfl)) jss_nil))
  (jss_cons (js_N (js_if (JW.jt (jw_and (jt_cmp op_notN k_notN (je_var 2) je_non (nomark _)) (jw_and1 (JW.jt (jw_or (jt_not (jt_truth (je_callK c_is_whole (hr.mono (by omega)) tk rfl (ja_cons (je_var 2) ja_nil)))) (jw_or1 (jt_cmp op_lt k_lt (je_var 2) (je_var 1) (nomark _)))))))) (jss_one (js_raiseN rfl x_BadValue.1 n_BadValue hr tk (ja_cons (je_var 2) ja_nil) rfl)) jss_nil))
  (jss_one (js_ret (je_fz (jf_callO c_signs_of__o (hr.mono (by omega)) tk rfl (ja_cons (je_fld C_Size.cl na_Size_row (je_var 0)) (ja_cons (je_var 1) (ja_cons (je_var 2) ja_nil)))))))))
theorem sc_whole_row : FnScope ["number"] ["number"] (defScope (top 10)) := ⟨rfl, rfl, rfl, by decide +kernel, rfl, by decide +kernel, by decide +kernel⟩
theorem ok_whole_row (F : FnW K "whole_row" (top 10)) (hm : mg "whole_row" = some (.ref (He.ga K "whole_row"))) (c_trimmed : Kn P w K mg base "trimmed" 1 ["row"] f_trimmed) : Kn P w K mg base "whole_row" 2 ["number"] f_whole_row := by
  have sc := sc_whole_row
  refine kn_ok F hm sc (fun _ _ _ _ _ _ us hl => match us, hl with | [_], _ => rfl) (k := 1) fun cdv A outer s H E hr tk hp hu hu1 => ?_
  exact (jss_one (js_ret (je_callK c_trimmed (hr.mono (by omega)) tk rfl (ja_cons (je_fz (jf_lst (ja_cons (je_var 0) ja_nil))) ja_nil))))
theorem sc_negated : FnScope ["row", "number"] ["row"] (defScope (top 14)) := ⟨rfl, rfl, rfl, by decide +kernel, rfl, by decide +kernel, by decide +kernel⟩
theorem ok_negated (F : FnW K "negated" (top 14)) (hm : mg "negated" = some (.ref (He.ga K "negated"))) (g_tuple : mg "tuple" = none) : Kn P w K mg base "negated" 1 ["row"] f_negated := by
  have sc := sc_negated
  refine kn_ok F hm sc (fun _ _ _ _ _ _ us hl => match us, hl with | [_], _ => rfl) (k := 0) fun cdv A outer s H E hr tk hp hu hu1 => ?_
  exact (jss_one (js_ret (je_t1 call_tuple_of k_tuple rfl g_tuple (by kernel_rfl) (jb_new (jf_lc (own := [("number", 1)]) rfl sc.nd (ji_seq (je_var 0)) (blk_ok (by kernel_rfl)) (fun s2 H2 C2 cl2 fp2 => (jg_name sc.nd rfl (by first | exact Or.inl rfl | exact Or.inr rfl))) (fun s2 H2 C2 cl2 fp2 => jts_nil) (fun s2 H2 C2 cl2 fp2 => (je_neg (je_var 1))))))))
theorem sc_add_rows : FnScope ["one", "two", "many", "first", "second", "k"] ["one", "two"] (defScope (top 15)) := ⟨rfl, rfl, rfl, by decide +kernel, rfl, by decide +kernel, by decide +kernel⟩
theorem ok_add_rows (F : FnW K "add_rows" (top 15)) (hm : mg "add_rows" = some (.ref (He.ga K "add_rows"))) (c_trimmed : Kn P w K mg base "trimmed" 1 ["row"] f_trimmed) (g_range : mg "range" = none) (g_list : mg "list" = none) (g_len : mg "len" = none) : Kn P w K mg base "add_rows" 2 ["one", "two"] f_add_rows := by
  have sc := sc_add_rows
  refine kn_ok F hm sc (fun _ _ _ _ _ _ us hl => match us, hl with | [_, _], _ => rfl) (k := 1) fun cdv A outer s H E hr tk hp hu hu1 => ?_
  exact (jss_cons (js_set sc.nd (i := 2) rfl (by first | exact Or.inl rfl | exact Or.inr rfl) (je_if (jt_cmp op_gt k_gt (je_b1 call_len k_len rfl g_len (by kernel_rfl) (jb_var 0)) (je_b1 call_len k_len rfl g_len (by kernel_rfl) (jb_var 1)) (nomark _)) (je_b1 call_len k_len rfl g_len (by kernel_rfl) (jb_var 0)) (je_b1 call_len k_len rfl g_len (by kernel_rfl) (jb_var 1))))
  (jss_cons (js_own sc.nd (i := 3) rfl (by first | exact Or.inl rfl | exact Or.inr rfl) (jf_bin op_cat k_laddF (je_fz (jf_t1 call_list_of k_list rfl g_list (by kernel_rfl) (jb_var 0))) (je_fz (jf_bin op_rep k_lrepF (je_fz (jf_lst (ja_cons je_int ja_nil))) (je_bin op_sub k_sub (je_var 2) (je_b1 call_len k_len rfl g_len (by kernel_rfl) (jb_var 0)))))))
  (jss_cons (js_own sc.nd (i := 4) rfl (by first | exact Or.inl rfl | exact Or.inr rfl) (jf_bin op_cat k_laddF (je_fz (jf_t1 call_list_of k_list rfl g_list (by kernel_rfl) (jb_var 1))) (je_fz (jf_bin op_rep k_lrepF (je_fz (jf_lst (ja_cons je_int ja_nil))) (je_bin op_sub k_sub (je_var 2) (je_b1 call_len k_len rfl g_len (by kernel_rfl) (jb_var 1)))))))
  (jss_one (js_ret (je_callK c_trimmed (hr.mono (by omega)) tk rfl (ja_cons (je_fz (jf_lc (own := [("k", 5)]) rfl sc.nd (ji_range1 rfl g_range (ja_cons (je_var 2) ja_nil)) (blk_ok (by kernel_rfl)) (fun s2 H2 C2 cl2 fp2 => (jg_name sc.nd rfl (by first | exact Or.inl rfl | exact Or.inr rfl))) (fun s2 H2 C2 cl2 fp2 => jts_nil) (fun s2 H2 C2 cl2 fp2 => (je_bin op_addX k_addX (je_ixV 3 (je_var 5)) (je_ixV 4 (je_var 5)))))) ja_nil)))))))
theorem sc_take_rows : FnScope ["one", "two"] ["one", "two"] (defScope (top 16)) := ⟨rfl, rfl, rfl, by decide +kernel, rfl, by decide +kernel, by decide +kernel⟩
theorem ok_take_rows (F : FnW K "take_rows" (top 16)) (hm : mg "take_rows" = some (.ref (He.ga K "take_rows"))) (c_negated : Kn P w K mg base "negated" 1 ["row"] f_negated) (c_add_rows : Kn P w K mg base "add_rows" 2 ["one", "two"] f_add_rows) : Kn P w K mg base "take_rows" 3 ["one", "two"] f_take_rows := by
  have sc := sc_take_rows
  refine kn_ok F hm sc (fun _ _ _ _ _ _ us hl => match us, hl with | [_, _], _ => rfl) (k := 2) fun cdv A outer s H E hr tk hp hu hu1 => ?_
  exact (jss_one (js_ret (je_callK c_add_rows (hr.mono (by omega)) tk rfl (ja_cons (je_var 0) (ja_cons (je_callK c_negated (hr.mono (by omega)) tk rfl (ja_cons (je_var 1) ja_nil)) ja_nil)))))
theorem sc_signs_of : FnScope ["row", "low", "high", "parts", "k", "cut", "start", "end", "turn", "piece"] ["row", "low", "high"] (defScope (top 23)) := ⟨rfl, rfl, rfl, by decide +kernel, rfl, by decide +kernel, by decide +kernel⟩
theorem ok_signs_of (F : FnW K "signs_of" (top 23)) (hm : mg "signs_of" = some (.ref (He.ga K "signs_of"))) (c_joined_signs__o : KnO P w K mg base "joined_signs" 1 ["parts"] f_joined_signs) (c_cut_by_sign : Kn P w K mg base "cut_by_sign" 3 ["row", "low", "high", "turn"] f_cut_by_sign) (g_len : mg "len" = none) (g_range : mg "range" = none) : Kn P w K mg base "signs_of" 4 ["row", "low", "high"] f_signs_of := by
  have sc := sc_signs_of
  refine kn_ok F hm sc (fun _ _ _ _ _ _ us hl => match us, hl with | [_, _, _], _ => rfl) (k := 3) fun cdv A outer s H E hr tk hp hu hu1 => ?_
  exact (jss_cons (js_N (js_own sc.nd (i := 3) rfl (by first | exact Or.inl rfl | exact Or.inr rfl) (jf_lst (ja_cons (je_tup (ja_cons (je_var 1) (ja_cons (je_var 2) (ja_cons je_int ja_nil)))) ja_nil))))
  (jss_cons (js_N (js_for hp rfl (ji_range3 rfl g_range (ja_cons (je_bin op_sub k_sub (je_b1 call_len k_len rfl g_len (by kernel_rfl) (jb_var 0)) je_int) (ja_cons (je_neg je_int) (ja_cons (je_neg je_int) ja_nil)))) (jg_name sc.nd rfl (by first | exact Or.inl rfl | exact Or.inr rfl)) (jss_cons (js_lc2 (own := [("start", 6), ("end", 7), ("turn", 8), ("piece", 9)]) rfl sc.nd (i := 5) rfl rfl (sw_true rfl rfl rfl (by kernel_rfl)) (ji_seq (je_var 3)) (blk_ok (by kernel_rfl)) (fun s2 H2 C2 cl2 fp2 => (jg_tup rfl (jgs_cons (jg_name sc.nd rfl (by first | exact Or.inl rfl | exact Or.inr rfl)) (jgs_cons (jg_name sc.nd rfl (by first | exact Or.inl rfl | exact Or.inr rfl)) (jgs_cons (jg_name sc.nd rfl (by first | exact Or.inl rfl | exact Or.inr rfl)) jgs_nil))))) (fun s2 H2 C2 cl2 fp2 => jts_nil) (fun s2 H2 C2 cl2 fp2 => (ji_seq (je_callK c_cut_by_sign (hr.mono (by omega)) tkF rfl (ja_cons (je_slN 0 (jo_some (je_var 4)) jo_none) (ja_cons (je_var 6) (ja_cons (je_var 7) (ja_cons (je_var 8) ja_nil))))))) (fun s2 H2 C2 cl2 fp2 => (jg_name sc.nd rfl (by first | exact Or.inl rfl | exact Or.inr rfl))) (fun s2 H2 C2 cl2 fp2 => jts_nil) (fun s2 H2 C2 cl2 fp2 => (je_var 9)))
  (jss_one (js_own sc.nd (i := 3) rfl (by first | exact Or.inl rfl | exact Or.inr rfl) (jf_callO c_joined_signs__o (hr.mono (by omega)) tk rfl (ja_cons (je_var 5) ja_nil)))))))
  (jss_one (js_retT 3))))
theorem sc_Size_least_from : FnScope ["self", "value", "parts", "least", "low", "high", "sign"] ["self", "value"] (defScope (clsDef (top 26) 22)) := ⟨rfl, rfl, rfl, by decide +kernel, rfl, by decide +kernel, by decide +kernel⟩
theorem ok_Size_least_from (F : MtW K "Size" "least_from" "Size.least_from" (clsDef (top 26) 22) []) (C_Size : KC K mg "Size") (c_whole_row : Kn P w K mg base "whole_row" 2 ["number"] f_whole_row) (c_take_rows : Kn P w K mg base "take_rows" 3 ["one", "two"] f_take_rows) (c_signs_of : Kn P w K mg base "signs_of" 4 ["row", "low", "high"] f_signs_of) (c_is_whole : Kn P w K mg base "is_whole" 1 ["value"] f_is_whole) (n_BadValue : mg "BadValue" = some (.ref (He.ga K "BadValue"))) (x_BadValue : XN P K mg "BadValue" ["shown"]) (na_Size_row : NoAttr K (He.ga K "Size") "row") : KnM P w K mg base "Size" "least_from" 5 ["self", "value"] f_Size_least_from := by
  have sc := sc_Size_least_from
  refine knM_ok F sc (fun fd F => F.bindsN fun _ _ _ _ _ _ us hl => match us, hl with | [_, _], _ => rfl) (k := 4) fun cdv A outer s H E hr tk hp hu hu1 => ?_
  exact (jss_cons (js_if (jt_not (jt_truth (je_callK c_is_whole (hr.mono (by omega)) tk rfl (ja_cons (je_var 1) ja_nil)))) (jss_one (js_raiseN rfl x_BadValue.1 n_BadValue hr tk (ja_cons (je_var 1) ja_nil) rfl)) jss_nil)
  (jss_cons (js_set sc.nd (i := 2) rfl (by first | exact Or.inl rfl | exact Or.inr rfl) (je_callK c_signs_of (hr.mono (by omega)) tk rfl (ja_cons (je_callK c_take_rows (hr.mono (by omega)) tk rfl (ja_cons (je_fld C_Size.cl na_Size_row (je_var 0)) (ja_cons (je_callK c_whole_row (hr.mono (by omega)) tk rfl (ja_cons (je_var 1) ja_nil)) ja_nil))) (ja_cons je_int (ja_cons je_non ja_nil)))))
  (jss_cons (js_if (jt_cmp op_lt k_lt (je_ix (je_ixV 2 (je_neg je_int)) je_int) je_int (nomark _)) (jss_one (js_ret je_non)) jss_nil)
  (jss_cons (js_set sc.nd (i := 3) rfl (by first | exact Or.inl rfl | exact Or.inr rfl) je_int)
  (jss_cons (js_for hp rfl (ji_seq (je_var 2)) (jg_tup rfl (jgs_cons (jg_name sc.nd rfl (by first | exact Or.inl rfl | exact Or.inr rfl)) (jgs_cons (jg_name sc.nd rfl (by first | exact Or.inl rfl | exact Or.inr rfl)) (jgs_cons (jg_name sc.nd rfl (by first | exact Or.inl rfl | exact Or.inr rfl)) jgs_nil)))) (jss_one (js_if (jt_cmp op_lt k_lt (je_var 6) je_int (nomark _)) (jss_one (js_set sc.nd (i := 3) rfl (by first | exact Or.inl rfl | exact Or.inr rfl) (je_bin op_addX k_addX (je_var 5) je_int))) jss_nil)))
  (jss_one (js_ret (je_var 3))))))))
theorem sc__law_error : FnScope ["_law_ask", "e"] ["_law_ask"] (defScope (top 38)) := ⟨rfl, rfl, rfl, by decide +kernel, rfl, by decide +kernel, by decide +kernel⟩
theorem ok__law_error (F : FnW K "_law_error" (top 38)) (hm : mg "_law_error" = some (.ref (He.ga K "_law_error"))) (C_Size : KC K mg "Size") (cr_Size : ClX.CRead K (He.ga K "Size") (.type "type")) (cm_Size_through : ClX.CMet K (He.ga K "Size") (.type "type") "through" (He.ma K (He.ga K "Size") "through") (wfC K "Size" "through")) (sm_Size_falling : SMet K (He.ga K "Size") (.type "type") "falling" (He.ma K (He.ga K "Size") "falling") (wfS K "Size" "falling")) (co_Size : StX.CallO K (He.ga K "Size") (He.ma K (He.ga K "Size") "__call__")) (o_Size___floordiv__ : Own K (He.ga K "Size") (He.ma K (He.ga K "Size") "__floordiv__") "__floordiv__") (nr_Size___rfloordiv__ : NoR K "Size" "__rfloordiv__") (o_Size___rshift__ : Own K (He.ga K "Size") (He.ma K (He.ga K "Size") "__rshift__") "__rshift__") (nr_Size___rrshift__ : NoR K "Size" "__rrshift__") (o_Size___lshift__ : Own K (He.ga K "Size") (He.ma K (He.ga K "Size") "__lshift__") "__lshift__") (nr_Size___rlshift__ : NoR K "Size" "__rlshift__") (me_Size_signs : Meth K (He.ga K "Size") "signs" (He.ma K (He.ga K "Size") "signs")) (me_Size_least_from : Meth K (He.ga K "Size") "least_from" (He.ma K (He.ga K "Size") "least_from")) (c_Size___init__ : KnM P w K mg base "Size" "__init__" 3 ["self", "row"] f_Size___init__) (c_Size_through : KnD P w K mg base (wfC K "Size" "through") 5 ["cls", "start", "values"] f_Size_through []) (c_Size_falling__d : KnD P w K mg base (wfS K "Size" "falling") 5 ["many", "start"] f_Size_falling [.int 0]) (c_Size_falling : KnD P w K mg base (wfS K "Size" "falling") 5 ["many", "start"] f_Size_falling []) (c_Size___call__ : KnM P w K mg base "Size" "__call__" 2 ["self", "n"] f_Size___call__) (c_Size___floordiv__ : KnM P w K mg base "Size" "__floordiv__" 5 ["self", "k"] f_Size___floordiv__) (c_Size___rshift__ : KnM P w K mg base "Size" "__rshift__" 5 ["self", "k"] f_Size___rshift__) (c_Size___lshift__ : KnM P w K mg base "Size" "__lshift__" 5 ["self", "k"] f_Size___lshift__) (c_Size_signs__p1 : KnD P w K mg base (He.ma K (He.ga K "Size") "signs") 5 ["self", "start", "end"] f_Size_signs [.non]) (c_Size_signs__p2 : KnD P w K mg base (He.ma K (He.ga K "Size") "signs") 5 ["self", "start", "end"] f_Size_signs []) (c_Size_signs__k_end : KnW P w K mg base (He.ma K (He.ga K "Size") "signs") 5 ["self", "start", "end"] f_Size_signs 1 ["end"] (fun ds es => ds ++ ([.int 0] ++ es))) (c_Size_least_from : KnM P w K mg base "Size" "least_from" 5 ["self", "value"] f_Size_least_from) (g_isinstance : mg "isinstance" = none) (g_ValueError : mg "ValueError" = none) (n_BadValue : mg "BadValue" = some (.ref (He.ga K "BadValue"))) (x_BadValue : XN P K mg "BadValue" ["shown"]) (n_EverynameError : mg "EverynameError" = some (.ref (He.ga K "EverynameError"))) (n_NotExact : mg "NotExact" = some (.ref (He.ga K "NotExact"))) (x_NotExact : XN P K mg "NotExact" ["by"]) (n_EmptySpan : mg "EmptySpan" = some (.ref (He.ga K "EmptySpan"))) (x_EmptySpan : X0 P K "EmptySpan") (n_NoBound : mg "NoBound" = some (.ref (He.ga K "NoBound"))) (x_NoBound : X0 P K "NoBound") (kt : ErrT K LL SS "ValueError") : Kn P w K mg base "_law_error" 7 ["_law_ask"] f__law_error := by
  have sc := sc__law_error
  have lbs_ : ∀ p ∈ tab__law_cases, LamB P w K mg base 5 p.1 p.2 := (lamBs_cons ⟨lamN_by (by kernel_rfl), (fun _ _ _ _ => rfl), fun A2 o2 s2 H2 E2 cl2 f2 c2 hr tk => have hu := room_u hr; have hu1 := room_u1 hr; (je_makeK C_Size c_Size___init__ (hr.mono (by omega)) tk rfl (ja_cons (je_var 0) ja_nil))⟩
    (lamBs_cons ⟨lamN_by (by kernel_rfl), (fun _ _ _ _ => rfl), fun A2 o2 s2 H2 E2 cl2 f2 c2 hr tk => have hu := room_u hr; have hu1 := room_u1 hr; (je_cmX cr_Size cm_Size_through c_Size_through (hr.mono (by omega)) tk rfl C_Size.mg (ja_cons (je_var 0) (ja_cons (je_var 1) ja_nil)))⟩
    (lamBs_cons ⟨lamN_by (by kernel_rfl), (fun _ _ _ _ => rfl), fun A2 o2 s2 H2 E2 cl2 f2 c2 hr tk => have hu := room_u hr; have hu1 := room_u1 hr; (je_cmX cr_Size cm_Size_through c_Size_through (hr.mono (by omega)) tk rfl C_Size.mg (ja_cons (je_var 0) (ja_cons (je_var 1) ja_nil)))⟩
    (lamBs_cons ⟨lamN_by (by kernel_rfl), (fun _ _ _ _ => rfl), fun A2 o2 s2 H2 E2 cl2 f2 c2 hr tk => have hu := room_u hr; have hu1 := room_u1 hr; (je_smX cr_Size sm_Size_falling c_Size_falling__d (hr.mono (by omega)) tk rfl C_Size.mg (ja_cons (je_var 0) ja_nil))⟩
    (lamBs_cons ⟨lamN_by (by kernel_rfl), (fun _ _ _ _ => rfl), fun A2 o2 s2 H2 E2 cl2 f2 c2 hr tk => have hu := room_u hr; have hu1 := room_u1 hr; (je_smX cr_Size sm_Size_falling c_Size_falling (hr.mono (by omega)) tk rfl C_Size.mg (ja_cons (je_var 0) (ja_cons (je_var 0) ja_nil)))⟩
    (lamBs_cons ⟨lamN_by (by kernel_rfl), (fun _ _ _ _ => rfl), fun A2 o2 s2 H2 E2 cl2 f2 c2 hr tk => have hu := room_u hr; have hu1 := room_u1 hr; (je_smX cr_Size sm_Size_falling c_Size_falling (hr.mono (by omega)) tk rfl C_Size.mg (ja_cons je_int (ja_cons (je_var 0) ja_nil)))⟩
    (lamBs_cons ⟨lamN_by (by kernel_rfl), (fun _ _ _ _ => rfl), fun A2 o2 s2 H2 E2 cl2 f2 c2 hr tk => have hu := room_u hr; have hu1 := room_u1 hr; (je_smX cr_Size sm_Size_falling c_Size_falling (hr.mono (by omega)) tk rfl C_Size.mg (ja_cons (je_var 0) (ja_cons (je_var 1) ja_nil)))⟩
    (lamBs_cons ⟨lamN_by (by kernel_rfl), (fun _ _ _ _ => rfl), fun A2 o2 s2 H2 E2 cl2 f2 c2 hr tk => have hu := room_u hr; have hu1 := room_u1 hr; (je_callOX co_Size c_Size___call__.d (hr.mono (by omega)) tk (je_var 1) (ja_cons (je_var 0) ja_nil))⟩
    (lamBs_cons ⟨lamN_by (by kernel_rfl), (fun _ _ _ _ => rfl), fun A2 o2 s2 H2 E2 cl2 f2 c2 hr tk => have hu := room_u hr; have hu1 := room_u1 hr; (je_opAn o_Size___floordiv__ (by decide) ot_floordiv nr_Size___rfloordiv__ (by decide) c_Size___floordiv__ (hr.mono (by omega)) tk (je_var 0) je_int)⟩
    (lamBs_cons ⟨lamN_by (by kernel_rfl), (fun _ _ _ _ => rfl), fun A2 o2 s2 H2 E2 cl2 f2 c2 hr tk => have hu := room_u hr; have hu1 := room_u1 hr; (je_opAn o_Size___floordiv__ (by decide) ot_floordiv nr_Size___rfloordiv__ (by decide) c_Size___floordiv__ (hr.mono (by omega)) tk (je_var 1) (je_var 0))⟩
    (lamBs_cons ⟨lamN_by (by kernel_rfl), (fun _ _ _ _ => rfl), fun A2 o2 s2 H2 E2 cl2 f2 c2 hr tk => have hu := room_u hr; have hu1 := room_u1 hr; (je_opAn o_Size___rshift__ (by decide) ot_rshift nr_Size___rrshift__ (by decide) c_Size___rshift__ (hr.mono (by omega)) tk (je_var 1) (je_var 0))⟩
    (lamBs_cons ⟨lamN_by (by kernel_rfl), (fun _ _ _ _ => rfl), fun A2 o2 s2 H2 E2 cl2 f2 c2 hr tk => have hu := room_u hr; have hu1 := room_u1 hr; (je_opAn o_Size___lshift__ (by decide) ot_lshift nr_Size___rlshift__ (by decide) c_Size___lshift__ (hr.mono (by omega)) tk (je_var 1) (je_var 0))⟩
    (lamBs_cons ⟨lamN_by (by kernel_rfl), (fun _ _ _ _ => rfl), fun A2 o2 s2 H2 E2 cl2 f2 c2 hr tk => have hu := room_u hr; have hu1 := room_u1 hr; (je_meth C_Size.cl me_Size_signs c_Size_signs__p1 (hr.mono (by omega)) tk (je_var 1) (ja_cons (je_var 0) ja_nil))⟩
    (lamBs_cons ⟨lamN_by (by kernel_rfl), (fun _ _ _ _ => rfl), fun A2 o2 s2 H2 E2 cl2 f2 c2 hr tk => have hu := room_u hr; have hu1 := room_u1 hr; (je_meth C_Size.cl me_Size_signs c_Size_signs__p2 (hr.mono (by omega)) tk (je_var 2) (ja_cons (je_var 0) (ja_cons (je_var 1) ja_nil)))⟩
    (lamBs_cons ⟨lamN_by (by kernel_rfl), (fun _ _ _ _ => rfl), fun A2 o2 s2 H2 E2 cl2 f2 c2 hr tk => have hu := room_u hr; have hu1 := room_u1 hr; (je_meth C_Size.cl me_Size_signs c_Size_signs__p1 (hr.mono (by omega)) tk (je_var 1) (ja_cons (je_var 0) ja_nil))⟩
    (lamBs_cons ⟨lamN_by (by kernel_rfl), (fun _ _ _ _ => rfl), fun A2 o2 s2 H2 E2 cl2 f2 c2 hr tk => have hu := room_u hr; have hu1 := room_u1 hr; (je_meth C_Size.cl me_Size_signs c_Size_signs__p2 (hr.mono (by omega)) tk (je_var 1) (ja_cons (je_var 0) (ja_cons (je_var 2) ja_nil)))⟩
    (lamBs_cons ⟨lamN_by (by kernel_rfl), (fun _ _ _ _ => rfl), fun A2 o2 s2 H2 E2 cl2 f2 c2 hr tk => have hu := room_u hr; have hu1 := room_u1 hr; (je_methKw (ks := ["end"]) C_Size.cl me_Size_signs c_Size_signs__k_end (hr.mono (by omega)) tk (je_var 1) (jk_cons (je_var 0) jk_nil) (fun _ _ h => by simpa using h))⟩
    (lamBs_cons ⟨lamN_by (by kernel_rfl), (fun _ _ _ _ => rfl), fun A2 o2 s2 H2 E2 cl2 f2 c2 hr tk => have hu := room_u hr; have hu1 := room_u1 hr; (je_meth C_Size.cl me_Size_least_from c_Size_least_from.d (hr.mono (by omega)) tk (je_var 1) (ja_cons (je_var 0) ja_nil))⟩
    lamBs_nil))))))))))))))))))
  refine kn_ok F hm sc (fun _ _ _ _ _ _ us hl => match us, hl with | [_], _ => rfl) (k := 6) fun cdv A outer s H E hr tk hp hu hu1 => ?_
  exact (jss_cons (js_tryCl rfl rfl sc.nd tk
  (fun W2 pn2 xe2 tk hp => (jss_one (js_expr (je_callClo lbs_ (hr.mono (by omega)) tk rfl (by first | exact Or.inl rfl | exact Or.inr (Or.inl rfl))))))
  (.as_ (test_one ⟨rfl, by decide, .inl n_BadValue⟩) (kt.own (c := "BadValue") (by decide)) (i := 1) rfl rfl (fun a2 oe2 cls2 d2 pn2 hz hf => (jss_one (js_ret (je_if (JW.jt (jw_and (jt_truth (je_isX (v := .ref (He.ga K "EverynameError")) (kt.isS (c := "EverynameError") (by decide)) hz hf rfl g_isinstance (pe_glob rfl n_EverynameError rfl) (fun _ r => r))) (jw_and1 (jt_truth (je_isX (v := .ty "ValueError") kt.isT hz hf rfl g_isinstance (pe_tyN rfl g_ValueError (by kernel_rfl)) (fun _ r => r)))))) (je_tup (ja_cons je_str (ja_cons (je_xf (c := "BadValue") x_BadValue.2.1 (x_BadValue.1.no "shown" (by decide)) hz hf) ja_nil))) je_non)))) 
  (.as_ (test_one ⟨rfl, by decide, .inl n_NotExact⟩) (kt.own (c := "NotExact") (by decide)) (i := 1) rfl rfl (fun a2 oe2 cls2 d2 pn2 hz hf => (jss_one (js_ret (je_if (jt_truth (je_isX (v := .ref (He.ga K "EverynameError")) (kt.isS (c := "EverynameError") (by decide)) hz hf rfl g_isinstance (pe_glob rfl n_EverynameError rfl) (fun _ r => r))) (je_tup (ja_cons je_str (ja_cons (je_xf (c := "NotExact") x_NotExact.2.1 (x_NotExact.1.no "by" (by decide)) hz hf) ja_nil))) je_non)))) 
  (.as_ (test_one ⟨rfl, by decide, .inl n_EmptySpan⟩) (kt.own (c := "EmptySpan") (by decide)) (i := 1) rfl rfl (fun a2 oe2 cls2 d2 pn2 hz hf => (jss_one (js_ret (je_tup (ja_cons je_str (ja_cons (je_isX (v := .ref (He.ga K "EverynameError")) (kt.isS (c := "EverynameError") (by decide)) hz hf rfl g_isinstance (pe_glob rfl n_EverynameError rfl) (fun _ r => r)) ja_nil)))))) 
  (.as_ (test_one ⟨rfl, by decide, .inl n_NoBound⟩) (kt.own (c := "NoBound") (by decide)) (i := 1) rfl rfl (fun a2 oe2 cls2 d2 pn2 hz hf => (jss_one (js_ret (je_tup (ja_cons je_str (ja_cons (je_isX (v := .ref (He.ga K "EverynameError")) (kt.isS (c := "EverynameError") (by decide)) hz hf rfl g_isinstance (pe_glob rfl n_EverynameError rfl) (fun _ r => r)) ja_nil)))))) .nil)))))
  (jss_one (js_ret je_non)))
theorem sc__law_refuses : FnScope ["_law_ask", "_law_blamed", "_law_told"] ["_law_ask", "_law_blamed"] (defScope (top 41)) := ⟨rfl, rfl, rfl, by decide +kernel, rfl, by decide +kernel, by decide +kernel⟩
theorem ok__law_refuses (F : FnW K "_law_refuses" (top 41)) (hm : mg "_law_refuses" = some (.ref (He.ga K "_law_refuses"))) (c__law_alike : Kn P w K mg base "_law_alike" 8 ["_law_told", "_law_wished"] (f__law_alike 8)) (c__law_error : Kn P w K mg base "_law_error" 7 ["_law_ask"] f__law_error) : Kn P w K mg base "_law_refuses" 9 ["_law_ask", "_law_blamed"] f__law_refuses := by
  have sc := sc__law_refuses
  refine kn_ok F hm sc (fun _ _ _ _ _ _ us hl => match us, hl with | [_, _], _ => rfl) (k := 8) fun cdv A outer s H E hr tk hp hu hu1 => ?_
  exact (jss_cons (js_set sc.nd (i := 2) rfl (by first | exact Or.inl rfl | exact Or.inr rfl) (je_callK c__law_error (hr.mono (by omega)) tk rfl (ja_cons (je_var 0) ja_nil)))
  (jss_one (js_ret (je_and (je_cmp op_notN k_notN (je_var 2) je_non (nomark _)) (je_and (je_cmp (op_eqX hu) k_eq (je_ixV 2 je_int) je_str (nomark _)) (je_one (je_callK c__law_alike (hr.mono (by omega)) tk rfl (ja_cons (je_ixV 2 je_int) (ja_cons (je_var 1) ja_nil)))))))))
theorem sc__law_pen : FnScope ["_law_script"] ["_law_script"] (defScope (top 28)) := ⟨rfl, rfl, rfl, by decide +kernel, rfl, by decide +kernel, by decide +kernel⟩
theorem ok__law_pen (F : FnW K "_law_pen" (top 28)) (hm : mg "_law_pen" = some (.ref (He.ga K "_law_pen"))) (g_list : mg "list" = none) : Kn P w K mg base "_law_pen" 1 ["_law_script"] f__law_pen := by
  have sc := sc__law_pen
  refine kn_ok F hm sc (fun _ _ _ _ _ _ us hl => match us, hl with | [_], _ => rfl) (k := 0) fun cdv A outer s H E hr tk hp hu hu1 => ?_
  exact (jss_one (js_ret (je_dict (jp_cons (ke := .inr "cells") pe_str (je_fz (jf_t1 call_list_of k_list rfl g_list (by kernel_rfl) (jb_of (je_slN 0 jo_none (jo_some je_int))))) (jp_cons (ke := .inr "begun") pe_str je_int (jp_cons (ke := .inr "rest") pe_str je_int jp_nil))) (by decide))))
theorem sc_law : FnScope ["_law_script", "_law_pen_here", "_law_again", "_law_row_here", "_law_size", "_law_ask", "_law_blamed"] ["_law_script"] (defScope (top 44)) := ⟨rfl, rfl, rfl, by decide +kernel, rfl, by decide +kernel, by decide +kernel⟩
theorem ok_law (F : FnW K "law" (top 44)) (hm : mg "law" = some (.ref (He.ga K "law"))) (C_Size : KC K mg "Size") (me_Size_signs : Meth K (He.ga K "Size") "signs" (He.ma K (He.ga K "Size") "signs")) (o_Size___rshift__ : Own K (He.ga K "Size") (He.ma K (He.ga K "Size") "__rshift__") "__rshift__") (nr_Size___rrshift__ : NoR K "Size" "__rrshift__") (o_Size___floordiv__ : Own K (He.ga K "Size") (He.ma K (He.ga K "Size") "__floordiv__") "__floordiv__") (nr_Size___rfloordiv__ : NoR K "Size" "__rfloordiv__") (c_Size_signs__p2 : KnD P w K mg base (He.ma K (He.ga K "Size") "signs") 5 ["self", "start", "end"] f_Size_signs []) (c_Size___rshift__ : KnM P w K mg base "Size" "__rshift__" 5 ["self", "k"] f_Size___rshift__) (c__law_cut : Kn P w K mg base "_law_cut" 1 ["_law_row_here"] f__law_cut) (c__law_size_is : Kn P w K mg base "_law_size_is" 2 ["_law_size", "_law_row_here"] f__law_size_is) (c_Size___floordiv__ : KnM P w K mg base "Size" "__floordiv__" 5 ["self", "k"] f_Size___floordiv__) (c__law_cases : Kn P w K mg base "_law_cases" 6 ["_law_pen_here", "_law_size"] f__law_cases) (c__law_refuses : Kn P w K mg base "_law_refuses" 9 ["_law_ask", "_law_blamed"] f__law_refuses) (c_Size___init__ : KnM P w K mg base "Size" "__init__" 3 ["self", "row"] f_Size___init__) (c__law_row : Kn P w K mg base "_law_row" 4 ["_law_pen_here", "_law_most"] f__law_row) (c__law_pen : Kn P w K mg base "_law_pen" 1 ["_law_script"] f__law_pen) (g_len : mg "len" = none) (g_min : mg "min" = none) (g_range : mg "range" = none) : Kn P w K mg base "law" 10 ["_law_script"] f_law := by
  have sc := sc_law
  refine kn_ok F hm sc (fun _ _ _ _ _ _ us hl => match us, hl with | [_], _ => rfl) (k := 9) fun cdv A outer s H E hr tk hp hu hu1 => ?_
  exact (jss_cons (js_set sc.nd (i := 1) rfl (by first | exact Or.inl rfl | exact Or.inr rfl) (je_callK c__law_pen (hr.mono (by omega)) tk rfl (ja_cons (je_var 0) ja_nil)))
  (jss_cons (js_for hp rfl (ji_range1 rfl g_range (ja_cons (je_bin op_addX k_addX je_int (je_min2 rfl rfl g_min (ja_cons je_int (ja_cons (je_b1 call_len k_len rfl g_len (by kernel_rfl) (jb_var 0)) ja_nil)))) ja_nil)) (jg_name sc.nd rfl (by first | exact Or.inl rfl | exact Or.inr rfl)) (jss_cons (js_set sc.nd (i := 3) rfl (by first | exact Or.inl rfl | exact Or.inr rfl) (je_callK c__law_row (hr.mono (by omega)) tk rfl (ja_cons (je_var 1) (ja_cons je_int ja_nil))))
  (jss_cons (js_set sc.nd (i := 4) rfl (by first | exact Or.inl rfl | exact Or.inr rfl) (je_makeK C_Size c_Size___init__ (hr.mono (by omega)) tk rfl (ja_cons (je_var 3) ja_nil)))
  (jss_cons (js_for hp rfl (ji_seq (je_callK c__law_cases (hr.mono (by omega)) tk rfl (ja_cons (je_var 1) (ja_cons (je_var 4) ja_nil)))) (jg_tup rfl (jgs_cons (jg_name sc.nd rfl (by first | exact Or.inl rfl | exact Or.inr rfl)) (jgs_cons (jg_name sc.nd rfl (by first | exact Or.inl rfl | exact Or.inr rfl)) jgs_nil))) (jss_one (js_if (jt_not (jt_truth (je_callK c__law_refuses (hr.mono (by omega)) tk rfl (ja_cons (je_var 5) (ja_cons (je_var 6) ja_nil))))) (jss_one (js_ret je_bl)) jss_nil)))
  (jss_cons (js_if (JW.jt (jw_or (jt_not (jt_truth (je_callK c__law_size_is (hr.mono (by omega)) tk rfl (ja_cons (je_var 4) (ja_cons (je_callK c__law_cut (hr.mono (by omega)) tk rfl (ja_cons (je_var 3) ja_nil)) ja_nil))))) (jw_or1 (jt_not (jt_truth (je_callK c__law_size_is (hr.mono (by omega)) tk rfl (ja_cons (je_opI o_Size___floordiv__ (by decide) io_floordiv nr_Size___rfloordiv__ (by decide) c_Size___floordiv__ (hr.mono (by omega)) tk (je_var 4) je_int) (ja_cons (je_callK c__law_cut (hr.mono (by omega)) tk rfl (ja_cons (je_var 3) ja_nil)) ja_nil)))))))) (jss_one (js_ret je_bl)) jss_nil)
  (jss_one (js_if (JW.jt (jw_or (jt_not (jt_truth (je_callK c__law_size_is (hr.mono (by omega)) tk rfl (ja_cons (je_opI o_Size___rshift__ (by decide) io_rshift nr_Size___rrshift__ (by decide) c_Size___rshift__ (hr.mono (by omega)) tk (je_var 4) je_int) (ja_cons (je_callK c__law_cut (hr.mono (by omega)) tk rfl (ja_cons (je_var 3) ja_nil)) ja_nil))))) (jw_or1 (jt_cmp (op_neX hu) k_ne (je_b1 call_len k_len rfl g_len (by kernel_rfl) (jb_of (je_meth C_Size.cl me_Size_signs c_Size_signs__p2 (hr.mono (by omega)) tk (je_var 4) (ja_cons je_int (ja_cons je_int ja_nil))))) je_int (nomark _))))) (jss_one (js_ret je_bl)) jss_nil)))))))
  (jss_one (js_ret je_bl))))
end
end
end K15
namespace K15
open PySem PySem.Spec PyProof.Rows L2 DL
noncomputable section
def dd (x : Str) (i : Nat) : He.DefD := ⟨(x, none), x, x, defArgs (top i), defBody (top i), defScope (top i), [], []⟩
def dm (c m q : Str) (i j : Nat) (ds : List He.Dv) : He.DefD := ⟨(c, some m), m, q, defArgs (clsDef (top i) j), defBody (clsDef (top i) j), defScope (clsDef (top i) j), ds, []⟩
def dw (T : String) (c m q : Str) (i j : Nat) (ds : List He.Dv) : He5.DefA := ⟨fun K => He5.wf K (He.ga K c) T m, m, q, defArgs (clsDef (top i) j), defBody (clsDef (top i) j), defScope (clsDef (top i) j), ds, []⟩
def fn : List He.DefD := [dd "joined_signs" 22, dd "row_value" 11, dd "first_from" 20, dd "sign_of" 19, dd "cut_by_sign" 21, dd "is_whole" 7, dm "Size" "signs" "Size.signs" 26 21 [.int 0, .non], dd "trimmed" 9, dd "row_moved" 13, dd "whole_list" 8, dm "Size" "__init__" "Size.__init__" 26 0 [.adr (He.dflAt ("Size", some "__init__") 0)], dm "Size" "__rshift__" "Size.__rshift__" 26 19 [], dd "_law_cut" 35, dd "_law_whole" 31, dd "_law_size_is" 37, dm "Size" "__floordiv__" "Size.__floordiv__" 26 18 [], dd "_law_draw" 29, dd "_law_pick" 30, dd "_law_odd" 39, dd "_law_great" 32, dd "_law_integer" 33, dd "_law_row" 36, dd "_law_odd_row" 42, dd "_law_far" 34, dd "_law_cases" 43, dd "_law_alike" 40, dd "differences" 12, dd "falling_row" 18, dm "Size" "__call__" "Size.__call__" 26 4 [], dm "Size" "__lshift__" "Size.__lshift__" 26 20 [], dd "whole_row" 10, dd "negated" 14, dd "add_rows" 15, dd "take_rows" 16, dd "signs_of" 23, dm "Size" "least_from" "Size.least_from" 26 22 [], dd "_law_error" 38, dd "_law_refuses" 41, dd "_law_pen" 28, dd "law" 44]
def fw : List He5.DefA := [dw "classmethod" "Size" "through" "Size.through" 26 1 [], dw "staticmethod" "Size" "falling" "Size.falling" 26 2 [.int 0]]
def fa : List He.Fa := [.glo "joined_signs", .glo "row_value", .glo "first_from", .glo "sign_of", .glo "cut_by_sign", .glo "signs_of", .glo "is_whole", .glo "trimmed", .glo "row_moved", .glo "whole_list", .glo "_law_cut", .glo "_law_whole", .glo "_law_size_is", .glo "_law_draw", .glo "_law_pick", .glo "_law_odd", .glo "_law_great", .glo "_law_integer", .glo "_law_row", .glo "_law_odd_row", .glo "_law_far", .glo "_law_cases", .glo "_law_alike", .glo "differences", .glo "falling_row", .glo "whole_row", .glo "negated", .glo "add_rows", .glo "take_rows", .glo "_law_error", .glo "_law_refuses", .glo "_law_pen", .glo "law", .glo "BadValue", .glo "NotExact", .glo "EverynameError", .glo "EmptySpan", .glo "NoBound", .glo "Size", .free "len", .free "enumerate", .free "int", .free "range", .free "isinstance", .free "bool", .free "tuple", .free "all", .free "list", .free "abs", .free "zip", .free "ValueError", .free "min", .free "super", .cls "Size", .mkr "Size", .noat "Size" "row"]
def fb : List (PySem.W.Frag → Bool) := [isCB "Size", creadB "Size", cmB "Size" "through", smB "Size" "falling", callB "Size", ownB "Size" "__floordiv__", noRB "Size" "__rfloordiv__", ownB "Size" "__rshift__", noRB "Size" "__rrshift__", ownB "Size" "__lshift__", noRB "Size" "__rlshift__", methB "Size" "signs", methB "Size" "least_from", HKN.n0B "EmptySpan", HKN.n0B "NoBound", errTB LL SS "ValueError"]
def xs : List HKN.ND := [⟨"BadValue", ["shown"], "BadValue.__init__", "no such value may stand here", ⟨⟨6, 17, 6, 21⟩, [⟨6, 23, 6, 28⟩], ⟨7, 8, 7, 13⟩, ⟨7, 8, 7, 15⟩, ⟨7, 8, 7, 24⟩, ⟨7, 25, 7, 55⟩, ⟨7, 8, 7, 56⟩, [(⟨8, 8, 8, 12⟩, ⟨8, 8, 8, 18⟩, ⟨8, 21, 8, 26⟩, ⟨8, 8, 8, 26⟩)]⟩, ⟨7, 8, 7, 56⟩⟩, ⟨"NotExact", ["by"], "NotExact.__init__", "the division leaves a rest", ⟨⟨11, 17, 11, 21⟩, [⟨11, 23, 11, 25⟩], ⟨12, 8, 12, 13⟩, ⟨12, 8, 12, 15⟩, ⟨12, 8, 12, 24⟩, ⟨12, 25, 12, 53⟩, ⟨12, 8, 12, 54⟩, [(⟨13, 8, 13, 12⟩, ⟨13, 8, 13, 15⟩, ⟨13, 18, 13, 20⟩, ⟨13, 8, 13, 20⟩)]⟩, ⟨12, 8, 12, 54⟩⟩]
abbrev R : PySem.W.OpenRow := PySem.W.OpenLaw.row PySem.Challenge.rw_everyname_k15_sizes_refuse_what_is_wrong
def lam : List Str := ["_law_cases"]
abbrev hk : PySem.W.Hook := HKT.hookT 6 (PySem.Challenge.rw_everyname_k15_sizes_refuse_what_is_wrong).prog.main.file fa fb fn xs fw lam
def ob (s : PySem.W.SharedT) : HKT.AlT := HKT.obsTG 6 (PySem.Challenge.rw_everyname_k15_sizes_refuse_what_is_wrong).prog.main.file fa fb fn xs fw lam (HandSHeadRun.getT s)
theorem ob_eq (s : PySem.W.SharedT) : ob s = hk.obs s.abs := HKT.obsTG_eq (HandSHeadRun.getT_eq s)
def names : List PySem.Str := (["EverynameError", "BadValue", "NotExact", "EmptySpan", "NoBound", "is_whole", "whole_list", "trimmed", "whole_row", "row_value", "differences", "row_moved", "negated", "add_rows", "take_rows", "multiply_rows", "falling_row", "sign_of", "first_from", "cut_by_sign"] : List PySem.Str) ++ (["joined_signs", "signs_of", "least_sign", "row_of", "Size", "_law_pen", "_law_draw", "_law_pick", "_law_whole", "_law_great", "_law_integer", "_law_far", "_law_cut", "_law_row", "_law_size_is", "_law_error", "_law_odd", "_law_alike", "_law_refuses", "_law_odd_row"] : List PySem.Str) ++ (["_law_cases"] : List PySem.Str)
theorem run (w : World) : HandSHeadRun.RunEq R (PySem.W.view R.prog [44]) hk ob 20000 names w := by
  intro os
  kernel_rfl
theorem facts {w : World} {K : PySem.W.Frag} {h : Heap} {mg : Str → Option Value} (base : Heap) (X : K.In h) (G : h.Ns mainGlobals mg) (c0 : HKT.SaysT (PySem.Challenge.rw_everyname_k15_sizes_refuse_what_is_wrong).prog.main.file fa fb fn xs fw lam K) (T : ∀ p ∈ HKT.tabs K lam, LamX.TabB base mg p.1 p.2) : Kn (PySem.Challenge.rw_everyname_k15_sizes_refuse_what_is_wrong).prog w K mg base "law" 10 ["_law_script"] f_law := by
  have c := c0.x
  have lk__law_cases : LamOk K mg base "_law_cases" := HKT.lam_ok c0.lams (by decide) T
  have n_joined_signs := He.glo_ok X G (c.fact 0 (f := .glo "joined_signs") rfl)
  have n_row_value := He.glo_ok X G (c.fact 1 (f := .glo "row_value") rfl)
  have n_first_from := He.glo_ok X G (c.fact 2 (f := .glo "first_from") rfl)
  have n_sign_of := He.glo_ok X G (c.fact 3 (f := .glo "sign_of") rfl)
  have n_cut_by_sign := He.glo_ok X G (c.fact 4 (f := .glo "cut_by_sign") rfl)
  have n_signs_of := He.glo_ok X G (c.fact 5 (f := .glo "signs_of") rfl)
  have n_is_whole := He.glo_ok X G (c.fact 6 (f := .glo "is_whole") rfl)
  have n_trimmed := He.glo_ok X G (c.fact 7 (f := .glo "trimmed") rfl)
  have n_row_moved := He.glo_ok X G (c.fact 8 (f := .glo "row_moved") rfl)
  have n_whole_list := He.glo_ok X G (c.fact 9 (f := .glo "whole_list") rfl)
  have n__law_cut := He.glo_ok X G (c.fact 10 (f := .glo "_law_cut") rfl)
  have n__law_whole := He.glo_ok X G (c.fact 11 (f := .glo "_law_whole") rfl)
  have n__law_size_is := He.glo_ok X G (c.fact 12 (f := .glo "_law_size_is") rfl)
  have n__law_draw := He.glo_ok X G (c.fact 13 (f := .glo "_law_draw") rfl)
  have n__law_pick := He.glo_ok X G (c.fact 14 (f := .glo "_law_pick") rfl)
  have n__law_odd := He.glo_ok X G (c.fact 15 (f := .glo "_law_odd") rfl)
  have n__law_great := He.glo_ok X G (c.fact 16 (f := .glo "_law_great") rfl)
  have n__law_integer := He.glo_ok X G (c.fact 17 (f := .glo "_law_integer") rfl)
  have n__law_row := He.glo_ok X G (c.fact 18 (f := .glo "_law_row") rfl)
  have n__law_odd_row := He.glo_ok X G (c.fact 19 (f := .glo "_law_odd_row") rfl)
  have n__law_far := He.glo_ok X G (c.fact 20 (f := .glo "_law_far") rfl)
  have n__law_cases := He.glo_ok X G (c.fact 21 (f := .glo "_law_cases") rfl)
  have n__law_alike := He.glo_ok X G (c.fact 22 (f := .glo "_law_alike") rfl)
  have n_differences := He.glo_ok X G (c.fact 23 (f := .glo "differences") rfl)
  have n_falling_row := He.glo_ok X G (c.fact 24 (f := .glo "falling_row") rfl)
  have n_whole_row := He.glo_ok X G (c.fact 25 (f := .glo "whole_row") rfl)
  have n_negated := He.glo_ok X G (c.fact 26 (f := .glo "negated") rfl)
  have n_add_rows := He.glo_ok X G (c.fact 27 (f := .glo "add_rows") rfl)
  have n_take_rows := He.glo_ok X G (c.fact 28 (f := .glo "take_rows") rfl)
  have n__law_error := He.glo_ok X G (c.fact 29 (f := .glo "_law_error") rfl)
  have n__law_refuses := He.glo_ok X G (c.fact 30 (f := .glo "_law_refuses") rfl)
  have n__law_pen := He.glo_ok X G (c.fact 31 (f := .glo "_law_pen") rfl)
  have n_law := He.glo_ok X G (c.fact 32 (f := .glo "law") rfl)
  have n_BadValue := He.glo_ok X G (c.fact 33 (f := .glo "BadValue") rfl)
  have n_NotExact := He.glo_ok X G (c.fact 34 (f := .glo "NotExact") rfl)
  have n_EverynameError := He.glo_ok X G (c.fact 35 (f := .glo "EverynameError") rfl)
  have n_EmptySpan := He.glo_ok X G (c.fact 36 (f := .glo "EmptySpan") rfl)
  have n_NoBound := He.glo_ok X G (c.fact 37 (f := .glo "NoBound") rfl)
  have n_Size := He.glo_ok X G (c.fact 38 (f := .glo "Size") rfl)
  have g_len := He.free_ok X G (c.fact 39 (f := .free "len") rfl)
  have g_enumerate := He.free_ok X G (c.fact 40 (f := .free "enumerate") rfl)
  have g_int := He.free_ok X G (c.fact 41 (f := .free "int") rfl)
  have g_range := He.free_ok X G (c.fact 42 (f := .free "range") rfl)
  have g_isinstance := He.free_ok X G (c.fact 43 (f := .free "isinstance") rfl)
  have g_bool := He.free_ok X G (c.fact 44 (f := .free "bool") rfl)
  have g_tuple := He.free_ok X G (c.fact 45 (f := .free "tuple") rfl)
  have g_all := He.free_ok X G (c.fact 46 (f := .free "all") rfl)
  have g_list := He.free_ok X G (c.fact 47 (f := .free "list") rfl)
  have g_abs := He.free_ok X G (c.fact 48 (f := .free "abs") rfl)
  have g_zip := He.free_ok X G (c.fact 49 (f := .free "zip") rfl)
  have g_ValueError := He.free_ok X G (c.fact 50 (f := .free "ValueError") rfl)
  have g_min := He.free_ok X G (c.fact 51 (f := .free "min") rfl)
  have g_super := He.free_ok X G (c.fact 52 (f := .free "super") rfl)
  have cl_Size := He.cls_ok (c.fact 53 (f := .cls "Size") rfl)
  have C_Size : KC K mg "Size" := ⟨cl_Size, isCB_ok cl_Size (c.fx 1 (f := isCB "Size") rfl), He.mkr_ok (c.fact 54 (f := .mkr "Size") rfl), n_Size⟩
  have na_Size_row := He.noat_ok (c.fact 55 (f := .noat "Size" "row") rfl)
  have cr_Size := creadB_ok (c.fx 2 (f := creadB "Size") rfl)
  have cm_Size_through := cmB_ok (c.fx 3 (f := cmB "Size" "through") rfl)
  have sm_Size_falling := smB_ok (c.fx 4 (f := smB "Size" "falling") rfl)
  have co_Size := callB_ok (c.fx 5 (f := callB "Size") rfl)
  have o_Size___floordiv__ := ownB_ok (c.fx 6 (f := ownB "Size" "__floordiv__") rfl)
  have nr_Size___rfloordiv__ := noRB_ok (c.fx 7 (f := noRB "Size" "__rfloordiv__") rfl)
  have o_Size___rshift__ := ownB_ok (c.fx 8 (f := ownB "Size" "__rshift__") rfl)
  have nr_Size___rrshift__ := noRB_ok (c.fx 9 (f := noRB "Size" "__rrshift__") rfl)
  have o_Size___lshift__ := ownB_ok (c.fx 10 (f := ownB "Size" "__lshift__") rfl)
  have nr_Size___rlshift__ := noRB_ok (c.fx 11 (f := noRB "Size" "__rlshift__") rfl)
  have me_Size_signs := methB_ok (c.fx 12 (f := methB "Size" "signs") rfl)
  have me_Size_least_from := methB_ok (c.fx 13 (f := methB "Size" "least_from") rfl)
  have x_EmptySpan : X0 (PySem.Challenge.rw_everyname_k15_sizes_refuse_what_is_wrong).prog K "EmptySpan" := HKN.n0B_ok (c.fx 14 (f := HKN.n0B "EmptySpan") rfl)
  have x_NoBound : X0 (PySem.Challenge.rw_everyname_k15_sizes_refuse_what_is_wrong).prog K "NoBound" := HKN.n0B_ok (c.fx 15 (f := HKN.n0B "NoBound") rfl)
  have kt : ErrT K LL SS "ValueError" := c.fx 16 (f := errTB LL SS "ValueError") rfl
  have y_BadValue := c.xf 0 (d := ⟨"BadValue", ["shown"], "BadValue.__init__", "no such value may stand here", ⟨⟨6, 17, 6, 21⟩, [⟨6, 23, 6, 28⟩], ⟨7, 8, 7, 13⟩, ⟨7, 8, 7, 15⟩, ⟨7, 8, 7, 24⟩, ⟨7, 25, 7, 55⟩, ⟨7, 8, 7, 56⟩, [(⟨8, 8, 8, 12⟩, ⟨8, 8, 8, 18⟩, ⟨8, 21, 8, 26⟩, ⟨8, 8, 8, 26⟩)]⟩, ⟨7, 8, 7, 56⟩⟩) rfl
  have x_BadValue : XN (PySem.Challenge.rw_everyname_k15_sizes_refuse_what_is_wrong).prog K mg "BadValue" ["shown"] := ⟨c.nc 0 (d := ⟨"BadValue", ["shown"], "BadValue.__init__", "no such value may stand here", ⟨⟨6, 17, 6, 21⟩, [⟨6, 23, 6, 28⟩], ⟨7, 8, 7, 13⟩, ⟨7, 8, 7, 15⟩, ⟨7, 8, 7, 24⟩, ⟨7, 25, 7, 55⟩, ⟨7, 8, 7, 56⟩, [(⟨8, 8, 8, 12⟩, ⟨8, 8, 8, 18⟩, ⟨8, 21, 8, 26⟩, ⟨8, 8, 8, 26⟩)]⟩, ⟨7, 8, 7, 56⟩⟩) rfl (by decide +kernel) g_super (by kernel_rfl) (by decide +kernel) (fun _ _ _ _ _ _ _ us hl => match us, hl with | [_], _ => rfl), y_BadValue.1, y_BadValue.2⟩
  have y_NotExact := c.xf 1 (d := ⟨"NotExact", ["by"], "NotExact.__init__", "the division leaves a rest", ⟨⟨11, 17, 11, 21⟩, [⟨11, 23, 11, 25⟩], ⟨12, 8, 12, 13⟩, ⟨12, 8, 12, 15⟩, ⟨12, 8, 12, 24⟩, ⟨12, 25, 12, 53⟩, ⟨12, 8, 12, 54⟩, [(⟨13, 8, 13, 12⟩, ⟨13, 8, 13, 15⟩, ⟨13, 18, 13, 20⟩, ⟨13, 8, 13, 20⟩)]⟩, ⟨12, 8, 12, 54⟩⟩) rfl
  have x_NotExact : XN (PySem.Challenge.rw_everyname_k15_sizes_refuse_what_is_wrong).prog K mg "NotExact" ["by"] := ⟨c.nc 1 (d := ⟨"NotExact", ["by"], "NotExact.__init__", "the division leaves a rest", ⟨⟨11, 17, 11, 21⟩, [⟨11, 23, 11, 25⟩], ⟨12, 8, 12, 13⟩, ⟨12, 8, 12, 15⟩, ⟨12, 8, 12, 24⟩, ⟨12, 25, 12, 53⟩, ⟨12, 8, 12, 54⟩, [(⟨13, 8, 13, 12⟩, ⟨13, 8, 13, 15⟩, ⟨13, 18, 13, 20⟩, ⟨13, 8, 13, 20⟩)]⟩, ⟨12, 8, 12, 54⟩⟩) rfl (by decide +kernel) g_super (by kernel_rfl) (by decide +kernel) (fun _ _ _ _ _ _ _ us hl => match us, hl with | [_], _ => rfl), y_NotExact.1, y_NotExact.2⟩
  have c_joined_signs__o := ok_joined_signs__o (P := (PySem.Challenge.rw_everyname_k15_sizes_refuse_what_is_wrong).prog) (w := w) (base := base) (c.def_ 0 (d := dd "joined_signs" 22) rfl) n_joined_signs g_len
  have c_row_value := ok_row_value (P := (PySem.Challenge.rw_everyname_k15_sizes_refuse_what_is_wrong).prog) (w := w) (base := base) (c.def_ 1 (d := dd "row_value" 11) rfl) n_row_value g_enumerate
  have c_first_from := ok_first_from (P := (PySem.Challenge.rw_everyname_k15_sizes_refuse_what_is_wrong).prog) (w := w) (base := base) (c.def_ 2 (d := dd "first_from" 20) rfl) n_first_from c_row_value
  have c_sign_of := ok_sign_of (P := (PySem.Challenge.rw_everyname_k15_sizes_refuse_what_is_wrong).prog) (w := w) (base := base) (c.def_ 3 (d := dd "sign_of" 19) rfl) n_sign_of g_int
  have c_cut_by_sign := ok_cut_by_sign (P := (PySem.Challenge.rw_everyname_k15_sizes_refuse_what_is_wrong).prog) (w := w) (base := base) (c.def_ 4 (d := dd "cut_by_sign" 21) rfl) n_cut_by_sign c_row_value c_first_from c_sign_of g_int
  have c_signs_of__o := ok_signs_of__o (P := (PySem.Challenge.rw_everyname_k15_sizes_refuse_what_is_wrong).prog) (w := w) (base := base) (c.def_ 34 (d := dd "signs_of" 23) rfl) n_signs_of c_joined_signs__o c_cut_by_sign g_len g_range
  have c_is_whole := ok_is_whole (P := (PySem.Challenge.rw_everyname_k15_sizes_refuse_what_is_wrong).prog) (w := w) (base := base) (c.def_ 5 (d := dd "is_whole" 7) rfl) n_is_whole g_isinstance g_bool g_int
  have c_Size_signs__p2 := ok_Size_signs__p2 (P := (PySem.Challenge.rw_everyname_k15_sizes_refuse_what_is_wrong).prog) (w := w) (base := base) (c.def_ 6 (d := dm "Size" "signs" "Size.signs" 26 21 [.int 0, .non]) rfl) C_Size c_signs_of__o c_is_whole n_BadValue x_BadValue na_Size_row
  have c_trimmed := ok_trimmed (P := (PySem.Challenge.rw_everyname_k15_sizes_refuse_what_is_wrong).prog) (w := w) (base := base) (c.def_ 7 (d := dd "trimmed" 9) rfl) n_trimmed g_tuple g_len
  have c_row_moved := ok_row_moved (P := (PySem.Challenge.rw_everyname_k15_sizes_refuse_what_is_wrong).prog) (w := w) (base := base) (c.def_ 8 (d := dd "row_moved" 13) rfl) n_row_moved c_row_value c_trimmed g_len g_range
  have c_whole_list := ok_whole_list (P := (PySem.Challenge.rw_everyname_k15_sizes_refuse_what_is_wrong).prog) (w := w) (base := base) (c.def_ 9 (d := dd "whole_list" 8) rfl) n_whole_list c_is_whole g_all g_isinstance g_list g_tuple
  have c_Size___init__ := ok_Size___init__ (P := (PySem.Challenge.rw_everyname_k15_sizes_refuse_what_is_wrong).prog) (w := w) (base := base) (c.def_ 10 (d := dm "Size" "__init__" "Size.__init__" 26 0 [.adr (He.dflAt ("Size", some "__init__") 0)]) rfl) C_Size c_trimmed c_whole_list n_BadValue x_BadValue na_Size_row
  have c_Size___rshift__ := ok_Size___rshift__ (P := (PySem.Challenge.rw_everyname_k15_sizes_refuse_what_is_wrong).prog) (w := w) (base := base) (c.def_ 11 (d := dm "Size" "__rshift__" "Size.__rshift__" 26 19 []) rfl) C_Size c_row_moved c_Size___init__ c_is_whole n_BadValue x_BadValue na_Size_row
  have c__law_cut := ok__law_cut (P := (PySem.Challenge.rw_everyname_k15_sizes_refuse_what_is_wrong).prog) (w := w) (base := base) (c.def_ 12 (d := dd "_law_cut" 35) rfl) n__law_cut g_tuple g_len
  have c__law_whole := ok__law_whole (P := (PySem.Challenge.rw_everyname_k15_sizes_refuse_what_is_wrong).prog) (w := w) (base := base) (c.def_ 13 (d := dd "_law_whole" 31) rfl) n__law_whole g_isinstance g_bool g_int
  have c__law_size_is := ok__law_size_is (P := (PySem.Challenge.rw_everyname_k15_sizes_refuse_what_is_wrong).prog) (w := w) (base := base) (c.def_ 14 (d := dd "_law_size_is" 37) rfl) n__law_size_is C_Size c__law_whole g_all g_isinstance g_tuple na_Size_row
  have c_Size___floordiv__ := ok_Size___floordiv__ (P := (PySem.Challenge.rw_everyname_k15_sizes_refuse_what_is_wrong).prog) (w := w) (base := base) (c.def_ 15 (d := dm "Size" "__floordiv__" "Size.__floordiv__" 26 18 []) rfl) C_Size c_Size___init__ c_is_whole g_all n_NotExact x_NotExact n_BadValue x_BadValue na_Size_row
  have c__law_draw := ok__law_draw (P := (PySem.Challenge.rw_everyname_k15_sizes_refuse_what_is_wrong).prog) (w := w) (base := base) (c.def_ 16 (d := dd "_law_draw" 29) rfl) n__law_draw g_int g_abs g_len
  have c__law_pick := ok__law_pick (P := (PySem.Challenge.rw_everyname_k15_sizes_refuse_what_is_wrong).prog) (w := w) (base := base) (c.def_ 17 (d := dd "_law_pick" 30) rfl) n__law_pick c__law_draw g_len
  have c__law_odd := ok__law_odd (P := (PySem.Challenge.rw_everyname_k15_sizes_refuse_what_is_wrong).prog) (w := w) (base := base) (c.def_ 18 (d := dd "_law_odd" 39) rfl) n__law_odd c__law_pick
  have c__law_great := ok__law_great (P := (PySem.Challenge.rw_everyname_k15_sizes_refuse_what_is_wrong).prog) (w := w) (base := base) (c.def_ 19 (d := dd "_law_great" 32) rfl) n__law_great c__law_draw g_int
  have c__law_integer := ok__law_integer (P := (PySem.Challenge.rw_everyname_k15_sizes_refuse_what_is_wrong).prog) (w := w) (base := base) (c.def_ 20 (d := dd "_law_integer" 33) rfl) n__law_integer c__law_draw c__law_great
  have c__law_row := ok__law_row (P := (PySem.Challenge.rw_everyname_k15_sizes_refuse_what_is_wrong).prog) (w := w) (base := base) (c.def_ 21 (d := dd "_law_row" 36) rfl) n__law_row c__law_draw c__law_integer g_range
  have c__law_odd_row := ok__law_odd_row (P := (PySem.Challenge.rw_everyname_k15_sizes_refuse_what_is_wrong).prog) (w := w) (base := base) (c.def_ 22 (d := dd "_law_odd_row" 42) rfl) n__law_odd_row c__law_pick c__law_draw c__law_row g_tuple g_len
  have c__law_far := ok__law_far (P := (PySem.Challenge.rw_everyname_k15_sizes_refuse_what_is_wrong).prog) (w := w) (base := base) (c.def_ 23 (d := dd "_law_far" 34) rfl) n__law_far c__law_great c__law_draw
  have c__law_cases := ok__law_cases (P := (PySem.Challenge.rw_everyname_k15_sizes_refuse_what_is_wrong).prog) (w := w) (base := base) (c.def_ 24 (d := dd "_law_cases" 43) rfl) n__law_cases c__law_odd c__law_odd_row c__law_far c__law_pick lk__law_cases
  have c__law_alike := ok__law_alike (P := (PySem.Challenge.rw_everyname_k15_sizes_refuse_what_is_wrong).prog) (w := w) (base := base) (c.def_ 25 (d := dd "_law_alike" 40) rfl) n__law_alike g_len g_isinstance g_list g_tuple g_zip g_all g_bool
  have c_differences := ok_differences (P := (PySem.Challenge.rw_everyname_k15_sizes_refuse_what_is_wrong).prog) (w := w) (base := base) (c.def_ 26 (d := dd "differences" 12) rfl) n_differences c_trimmed g_len g_range g_list
  have c_Size_through := ok_Size_through (P := (PySem.Challenge.rw_everyname_k15_sizes_refuse_what_is_wrong).prog) (w := w) (base := base) (c0.wrapped 0 (d := dw "classmethod" "Size" "through" "Size.through" 26 1 []) rfl) C_Size c_differences c_row_moved c_Size___init__ c_whole_list c_is_whole n_BadValue x_BadValue
  have c_falling_row := ok_falling_row (P := (PySem.Challenge.rw_everyname_k15_sizes_refuse_what_is_wrong).prog) (w := w) (base := base) (c.def_ 27 (d := dd "falling_row" 18) rfl) n_falling_row c_row_moved g_range
  have c_Size_falling__d := ok_Size_falling__d (P := (PySem.Challenge.rw_everyname_k15_sizes_refuse_what_is_wrong).prog) (w := w) (base := base) (c0.wrapped 1 (d := dw "staticmethod" "Size" "falling" "Size.falling" 26 2 [.int 0]) rfl) C_Size c_falling_row c_Size___init__ c_is_whole n_BadValue x_BadValue
  have c_Size_falling := ok_Size_falling (P := (PySem.Challenge.rw_everyname_k15_sizes_refuse_what_is_wrong).prog) (w := w) (base := base) (c0.wrapped 1 (d := dw "staticmethod" "Size" "falling" "Size.falling" 26 2 [.int 0]) rfl) C_Size c_falling_row c_Size___init__ c_is_whole n_BadValue x_BadValue
  have c_Size___call__ := ok_Size___call__ (P := (PySem.Challenge.rw_everyname_k15_sizes_refuse_what_is_wrong).prog) (w := w) (base := base) (c.def_ 28 (d := dm "Size" "__call__" "Size.__call__" 26 4 []) rfl) C_Size c_row_value c_is_whole n_BadValue x_BadValue na_Size_row
  have c_Size___lshift__ := ok_Size___lshift__ (P := (PySem.Challenge.rw_everyname_k15_sizes_refuse_what_is_wrong).prog) (w := w) (base := base) (c.def_ 29 (d := dm "Size" "__lshift__" "Size.__lshift__" 26 20 []) rfl) C_Size c_row_moved c_Size___init__ c_is_whole n_BadValue x_BadValue na_Size_row
  have c_Size_signs__p1 := ok_Size_signs__p1 (P := (PySem.Challenge.rw_everyname_k15_sizes_refuse_what_is_wrong).prog) (w := w) (base := base) (c.def_ 6 (d := dm "Size" "signs" "Size.signs" 26 21 [.int 0, .non]) rfl) C_Size c_signs_of__o c_is_whole n_BadValue x_BadValue na_Size_row
  have c_Size_signs__k_end := ok_Size_signs__k_end (P := (PySem.Challenge.rw_everyname_k15_sizes_refuse_what_is_wrong).prog) (w := w) (base := base) (c.def_ 6 (d := dm "Size" "signs" "Size.signs" 26 21 [.int 0, .non]) rfl) C_Size c_signs_of__o c_is_whole n_BadValue x_BadValue na_Size_row
  have c_whole_row := ok_whole_row (P := (PySem.Challenge.rw_everyname_k15_sizes_refuse_what_is_wrong).prog) (w := w) (base := base) (c.def_ 30 (d := dd "whole_row" 10) rfl) n_whole_row c_trimmed
  have c_negated := ok_negated (P := (PySem.Challenge.rw_everyname_k15_sizes_refuse_what_is_wrong).prog) (w := w) (base := base) (c.def_ 31 (d := dd "negated" 14) rfl) n_negated g_tuple
  have c_add_rows := ok_add_rows (P := (PySem.Challenge.rw_everyname_k15_sizes_refuse_what_is_wrong).prog) (w := w) (base := base) (c.def_ 32 (d := dd "add_rows" 15) rfl) n_add_rows c_trimmed g_range g_list g_len
  have c_take_rows := ok_take_rows (P := (PySem.Challenge.rw_everyname_k15_sizes_refuse_what_is_wrong).prog) (w := w) (base := base) (c.def_ 33 (d := dd "take_rows" 16) rfl) n_take_rows c_negated c_add_rows
  have c_signs_of := ok_signs_of (P := (PySem.Challenge.rw_everyname_k15_sizes_refuse_what_is_wrong).prog) (w := w) (base := base) (c.def_ 34 (d := dd "signs_of" 23) rfl) n_signs_of c_joined_signs__o c_cut_by_sign g_len g_range
  have c_Size_least_from := ok_Size_least_from (P := (PySem.Challenge.rw_everyname_k15_sizes_refuse_what_is_wrong).prog) (w := w) (base := base) (c.def_ 35 (d := dm "Size" "least_from" "Size.least_from" 26 22 []) rfl) C_Size c_whole_row c_take_rows c_signs_of c_is_whole n_BadValue x_BadValue na_Size_row
  have c__law_error := ok__law_error (P := (PySem.Challenge.rw_everyname_k15_sizes_refuse_what_is_wrong).prog) (w := w) (base := base) (c.def_ 36 (d := dd "_law_error" 38) rfl) n__law_error C_Size cr_Size cm_Size_through sm_Size_falling co_Size o_Size___floordiv__ nr_Size___rfloordiv__ o_Size___rshift__ nr_Size___rrshift__ o_Size___lshift__ nr_Size___rlshift__ me_Size_signs me_Size_least_from c_Size___init__ c_Size_through c_Size_falling__d c_Size_falling c_Size___call__ c_Size___floordiv__ c_Size___rshift__ c_Size___lshift__ c_Size_signs__p1 c_Size_signs__p2 c_Size_signs__k_end c_Size_least_from g_isinstance g_ValueError n_BadValue x_BadValue n_EverynameError n_NotExact x_NotExact n_EmptySpan x_EmptySpan n_NoBound x_NoBound kt
  have c__law_refuses := ok__law_refuses (P := (PySem.Challenge.rw_everyname_k15_sizes_refuse_what_is_wrong).prog) (w := w) (base := base) (c.def_ 37 (d := dd "_law_refuses" 41) rfl) n__law_refuses c__law_alike c__law_error
  have c__law_pen := ok__law_pen (P := (PySem.Challenge.rw_everyname_k15_sizes_refuse_what_is_wrong).prog) (w := w) (base := base) (c.def_ 38 (d := dd "_law_pen" 28) rfl) n__law_pen g_list
  have c_law := ok_law (P := (PySem.Challenge.rw_everyname_k15_sizes_refuse_what_is_wrong).prog) (w := w) (base := base) (c.def_ 39 (d := dd "law" 44) rfl) n_law C_Size me_Size_signs o_Size___rshift__ nr_Size___rrshift__ o_Size___floordiv__ nr_Size___rfloordiv__ c_Size_signs__p2 c_Size___rshift__ c__law_cut c__law_size_is c_Size___floordiv__ c__law_cases c__law_refuses c_Size___init__ c__law_row c__law_pen g_len g_min g_range
  exact c_law
end
end K15
section
open PySem PySem.W PySem.Calls PyProof.Rows
theorem K15.holds (pure : ∀ ns : List Int, ns.length ≤ 63 → ∃ st, K15.f_law [.kl (ns.map DL.D.int)] [] = .ok (.bl true) st) : PySem.Challenge.rw_everyname_k15_sizes_refuse_what_is_wrong.Holds := by
  w_on; o_law
  refine HandSHeadRun.head_any (r := OpenLaw.row PySem.Challenge.rw_everyname_k15_sizes_refuse_what_is_wrong) (q := view (OpenLaw.row PySem.Challenge.rw_everyname_k15_sizes_refuse_what_is_wrong).prog [44]) (H := K15.hk) (ob := K15.ob) (M := 20000) (loose := K15.names) (d := HandSHeadRun.topDef (OpenLaw.row PySem.Challenge.rw_everyname_k15_sizes_refuse_what_is_wrong).prog 44) (kwd := []) K15.ob_eq
    (by kernel_rfl) (fun s => by kernel_rfl) K15.run (by kernel_rfl) (by kernel_rfl) (by kernel_rfl) (by rfl) (by first | assumption | decide +kernel) (by decide +kernel) ⟨rfl, rfl, rfl, rfl, rfl, by decide +kernel⟩ ?hw ?hc
  case hw => w_witness2
  case hc =>
    refine LamX.walk_ofTsE (l := PySem.Challenge.rw_everyname_k15_sizes_refuse_what_is_wrong) (n := 63) (k := 10) (x := "_law_script") (CX := fun _ _ _ _ _ _ _ => False) rfl (by decide) (by kernel_rfl) ⟨rfl, by decide, by decide⟩ ?F (fun _ _ _ _ _ z => z)
    intro w mg fa h Y G hmg0
    obtain ⟨K, KX, c, ht⟩ := Y
    have hmg : mg ("law" : PySem.Str) = some (.ref fa) := by
      have e : (HandSHeadRun.topDef (OpenLaw.row PySem.Challenge.rw_everyname_k15_sizes_refuse_what_is_wrong).prog 44).name = ("law" : PySem.Str) := by kernel_rfl
      rw [← e]
      exact hmg0
    have kn := fun (base : Heap) T => K15.facts (w := w) base KX G c T
    obtain ⟨fd, FL⟩ := c.x.def_ 39 (d := K15.dd "law" 44) rfl
    have bA := fun (s : Shared) (us : List Value) (hl : us.length = ["_law_script"].length) => L2.FunD.bindsA (ps := ["_law_script"]) FL (fun _ _ _ _ _ _ us hl => match us, hl with | [_], _ => rfl) s us hl
    refine ⟨K, KX, ?_⟩
    unfold LamX.LawAtS
    refine ⟨fd, HKT.tabs K K15.lam, fun vs H Q _ => DL.spF K 1 K15.f_law vs H Q fun _ _ _ => False, ht, HKT.tabs_none c.lams, HKT.tabs_code c.lams KX, fun s u => bA s [u] rfl, fun H a ns hl _ hH hS => DL.law_sp (HKT.tabs_all c.lams hH) hS (pure ns hl), fun base _ _ T => ?_⟩
    exact DL.law_fd (kn base T) FL hmg (He.glo_ok KX G (c.x.fact 32 (f := .glo "law") rfl))
end
namespace SP
open DL
abbrev Up (t : List Int) : Prop := t.Pairwise (· < ·)
/-- does n lie within, by the turning points -/
def par : List Int → Int → Bool
  | [], _ => false
  | x :: r, n => xor (decide (x ≤ n)) (par r n)
/-- t are the places where f changes -/
structure Tp (t : List Int) (f : Int → Bool) : Prop where
  up : Up t
  ch : ∀ x, x ∈ t ↔ f x ≠ f (x - 1)
  ng : ∀ n, n < 0 → f n = false
abbrev Sq := Int × Option Int
def pr : List Int → List Sq
  | [] => []
  | [x] => [(x, none)]
  | x :: y :: r => (x, some (y - 1)) :: pr r
end SP
namespace SP
open DL
def mk (k : Bool → Bool → Bool) : List Int → List Int → Bool → Bool → List (Int × Bool)
  | [], [], _, _ => []
  | x :: r, [], a, b => (x, k (!a) b) :: mk k r [] (!a) b
  | [], y :: q, a, b => (y, k a (!b)) :: mk k [] q a (!b)
  | x :: r, y :: q, a, b => if x < y then (x, k (!a) b) :: mk k r (y :: q) (!a) b else if x = y then (x, k (!a) (!b)) :: mk k r q (!a) (!b) else (y, k a (!b)) :: mk k (x :: r) q a (!b)
termination_by t u => t.length + u.length
abbrev Pt := Int × Option Int × Bool
def nx : List (Int × Bool) → Option Int
  | [] => none
  | (p, _) :: _ => some (p - 1)
def fl (l : List Pt) : List Sq := (l.filter (·.2.2)).map fun p => (p.1, p.2.1)
/-- a stretch -/
def okS (s : Sq) : Prop := 0 ≤ s.1 ∧ ∀ h, s.2 = some h → s.1 ≤ h
end SP
namespace SP
open PySem PySem.Spec L2 DL LC
def oD : Option Int → D
  | none => .non
  | some h => .int h
def eD (s : Sq) : D := .tup [.int s.1, oD s.2]
theorem lcs_gen {g : MG} {t : MT} {m : ME} {vs : List Nat} {s : S} {F : D → Option D} : ∀ (ds acc : List D), (∀ d ∈ ds, ∃ l, g d = some l ∧ noX (s.puts l) = true ∧ wipeS (s.puts l) vs = s ∧ match F d with
      | none => t (s.puts l) = .ok false (s.puts l)
      | some z => t (s.puts l) = .ok true (s.puts l) ∧ m (s.puts l) = .ok z (s.puts l)) → few (acc.length + ds.length) → lcs g t m vs acc ds s = .ok (acc ++ ds.filterMap F) s
  | [], acc, _, _ => by simp [lcs]
  | d :: ds, acc, h, hf => by
    obtain ⟨l, h1, h2, h3, h4⟩ := h d List.mem_cons_self
    unfold lcs
    cases hF : F d with
    | none =>
      rw [hF] at h4
      have ih := lcs_gen ds acc (fun x hx => h x (List.mem_cons_of_mem _ hx)) (by unfold few at hf ⊢; simp at hf; omega)
      simp only [h1, h4, h2, h3, if_true, Bool.false_eq_true, if_false]
      rw [ih, List.filterMap_cons, hF]
    | some z =>
      rw [hF] at h4
      have ih := lcs_gen ds (acc ++ [z]) (fun x hx => h x (List.mem_cons_of_mem _ hx)) (by unfold few at hf ⊢; simp at hf ⊢; omega)
      have f1 : few (acc.length + 1) := by unfold few at hf ⊢; simp at hf; omega
      simp only [h1, h4.1, h4.2, h2, h3, if_true, f1, and_self]
      rw [ih, List.filterMap_cons, hF]
      simp
theorem lc_gen {it : MA} {g : MG} {t : MT} {m : ME} {vs : List Nat} {s0 s : S} {ds : List D} {F : D → Option D} (hit : it s0 = .ok ds s) (hx : noX s = true) (hw : wipeS s vs = s) (h : ∀ d ∈ ds, ∃ l, g d = some l ∧ noX (s.puts l) = true ∧ wipeS (s.puts l) vs = s ∧ match F d with
      | none => t (s.puts l) = .ok false (s.puts l)
      | some z => t (s.puts l) = .ok true (s.puts l) ∧ m (s.puts l) = .ok z (s.puts l)) (hf : few ds.length) : mLc it g t m vs s0 = .ok (ds.filterMap F) s := by
  unfold mLc
  rw [bnd_of hit]
  simp only [hx, if_true, hw]
  rw [lcs_gen ds [] h (by simpa using hf)]
  simp
theorem lcs2_step {g : MG} {t : MT} {it1 : MA} {g1 : MG} {t1 : MT} {m : ME} {vs vs1 : List Nat} {acc acc' es ds : List D} {d : D} {l : List (Nat × D)} {s s5 s6 s7 : S} (h1 : g d = some l) (h2 : t (s.puts l) = .ok true s5) (h3 : it1 s5 = .ok es s6) (h4 : noX s6 = true) (h5 : lcs g1 t1 m vs1 acc es (wipeS s6 vs1) = .ok acc' s7) :
    lcs2 g t it1 g1 t1 m vs vs1 acc (d :: ds) s = lcs2 g t it1 g1 t1 m vs vs1 acc' ds (wipeS s7 vs) := by
  rw [lcs2]
  simp only [h1, h2, h3, h4, h5, if_true]
theorem atI_nat {xs : List D} {k : Nat} {d : D} (h : xs[k]? = some d) : atI xs (k : Int) = some d := by
  have hk : k < xs.length := (List.getElem?_eq_some_iff.mp h).1
  unfold atI ixN
  rw [if_pos (by omega), if_pos (by omega)]
  simpa using h
end SP
namespace SP
open PySem PySem.Spec L2 DL LC
theorem eq_int (i j : Int) : fEq (.int i) (.int j) = some (.bl (decide (i = j))) := by
  simp [fEq, dEq, deq, sc]
  by_cases h : i = j <;> simp [h]
theorem ne_bl (a b : Bool) : fNe (.bl a) (.bl b) = some (.bl (a != b)) := by
  cases a <;> cases b <;> rfl
abbrev cS (o w k t u : D) (a b : Int) (told : List D) (z : Slot) (st : List Ob) : S := ⟨[.imm o, .imm w, .imm k, .imm t, .imm u, .imm (.int a), .imm (.int b), .own told, z], st⟩
def c2 : MS := mIfS (mAndT (mBl (mBin iLt (mVar 5) (mUn fLen (mLook 3)))) (mBl (mBin fEq (mIxN 3 (mVar 5)) (mVar 8)))) (mSet 5 (mBin fAdd (mVar 5) (mC (.int 1)))) mPass
def c3 : MS := mIfS (mAndT (mBl (mBin iLt (mVar 6) (mUn fLen (mLook 4)))) (mBl (mBin fEq (mIxN 4 (mVar 6)) (mVar 8)))) (mSet 6 (mBin fAdd (mVar 6) (mC (.int 1)))) mPass
def c1 : MS := mIfS (mOrT (mBl (mBin fEq (mVar 6) (mUn fLen (mLook 4)))) (mAndT (mBl (mBin iLt (mVar 5) (mUn fLen (mLook 3)))) (mBl (mBin iLt (mIxN 3 (mVar 5)) (mIxN 4 (mVar 6)))))) (mSet 8 (mIxN 3 (mVar 5))) (mSet 8 (mIxN 4 (mVar 6)))
def c4 : MS := mIfS (mBl (mBin fNe (mIxN 2 (mBin fAdd (mBin fMul (mBin iMod (mVar 5) (mC (.int 2))) (mC (.int 2))) (mBin iMod (mVar 6) (mC (.int 2))))) (mBin fEq (mBin iMod (mUn fLen (mLook 7)) (mC (.int 2))) (mC (.int 1))))) (mExpr (mApp 7 (mVar 8))) mPass
def od (n : Nat) : Bool := decide (n % 2 = 1)
theorem wh_step {t : MT} {b : MS} {s s1 s2 : S} (h1 : t s = .ok true s1) (h2 : b s1 = .ok .nx s2) : mWhile t b s = mWhile t b s2 := by
  rw [mWhile_eq, bnd_of h1]
  simp only [if_true, h2]
theorem wh_end {t : MT} {b : MS} {s s1 : S} (h1 : t s = .ok false s1) : mWhile t b s = .ok .nx s1 := by
  rw [mWhile_eq, bnd_of h1]
  simp [DL.ret]
end SP
namespace SP
open PySem PySem.Spec L2 DL LC
end SP
namespace SP
open PySem PySem.Spec L2 DL LC
def hT : MT := mBl (mBin fNotN (mVar 3) (mC .non))
end SP
namespace SP
open PySem PySem.Spec L2 DL LC
abbrev jS (p : Slot) (found : List D) (x : Pt) (st : List Ob) : S := ⟨[p, .own found, .imm (.int x.1), .imm (oD x.2.1), .imm (.bl x.2.2)], st⟩
theorem fo_step {g : MG} {b : MS} {d : D} {ds : List D} {s s2 : S} {l : List (Nat × D)} (h1 : g d = some l) (h2 : b (s.puts l) = .ok .nx s2) : fo g b (d :: ds) s = fo g b ds s2 := by
  rw [fo]
  simp only [h1, h2]
theorem for_of {it : MA} {g : MG} {b : MS} {ds : List D} {s s1 s2 : S} (h1 : it s = .ok ds s1) (h2 : fo g b ds s1 = .ok .nx s2) : mFor it g b s = .ok .nx s2 := by
  unfold mFor
  rw [bnd_of h1]
  exact h2
end SP
namespace SP
open PySem PySem.Spec L2 DL LC
abbrev g3 : MG := gTp 3 (gsCons (gNm 3) (gsCons (gNm 4) (gsCons (gNm 5) gsNil)))
end SP
namespace SP
open PySem PySem.Spec L2 DL LC
def e2 : ME := mIf (mBl (mBin fEq (mVar 2) (mC (.int 2)))) (mAnd (mVar 6) (mNot (mVar 7))) (mBin fNe (mVar 6) (mVar 7))
end SP
namespace SP
open PySem PySem.Spec L2 DL LC
theorem isw_int (i : Int) (st : List Ob) : f_is_whole [.int i] st = .ok (.bl true) st := by
  simp [f_is_whole, fnM, m_is_whole, mRet, mAnd, mNot, mUn, fIsi, tyD, subT, mLook, cur, bnd, DL.ret, slots, lift, optB, tru, endR]
end SP
namespace SP
open PySem PySem.Spec L2 DL LC
abbrev spO (a : D) : Ob := .ins "Span" [("stretches", a)]
end SP
namespace SP
open PySem PySem.Spec L2 DL LC
abbrev pD (t : List Int) : D := .tup ((pr t).map eD)
end SP
namespace SP
open PySem PySem.Spec L2 DL LC
theorem whole_int (i : Int) (st : List Ob) : f__law_whole [.int i] st = .ok (.bl true) st := by
  simp [f__law_whole, fnM, m__law_whole, mRet, mAnd, mNot, mUn, fIsi, tyD, subT, mLook, cur, bnd, DL.ret, slots, lift, optB, tru, endR]
end SP
namespace SP
open PySem PySem.Spec L2 DL LC
def PenT (B : Nat) (rs st : List Ob) : Prop := ∃ cs b r, st = .dct (penL cs b r) :: rs ∧ cs.length ≤ 1000 ∧ 0 ≤ b ∧ b ≤ (B : Int) ∧ 0 ≤ r
theorem PenT.mono {B C : Nat} {rs st : List Ob} (h : PenT B rs st) (l : B ≤ C) : PenT C rs st := by
  obtain ⟨cs, b, r, h1, h2, h3, h4, h5⟩ := h
  exact ⟨cs, b, r, h1, h2, h3, by omega, h5⟩
theorem drawT {B : Nat} {rs st : List Ob} {m : Int} (h : PenT B rs st) (hB : B < 2 ^ 30) (hm : 0 < m) (hm2 : m < 2 ^ 60) : ∃ k st', f__law_draw [.loc 0, .int m] st = .ok (.int k) st' ∧ 0 ≤ k ∧ k < m ∧ PenT (B + 1) rs st' := by
  obtain ⟨cs, b, r, rfl, h2, h3, h4, h5⟩ := h
  have hb : bits m < 9000 := by have := bits_lt (i := m) (k := 60) (by omega) hm2; omega
  by_cases hr : 0 < r
  · exact ⟨_, _, draw1 rs cs b r m hr hm hb, (mod_rng r hm).1, (mod_rng r hm).2, cs, b, _, rfl, h2, h3, by omega, Int.ediv_nonneg (by omega) (by omega)⟩
  · have e : r = 0 := by omega
    subst e
    have hd := draw2 rs cs b m h3 (by omega) h2 hm hb
    generalize (if cellOf cs b < 0 then -cellOf cs b else cellOf cs b) = ab at hd
    split at hd
    · rename_i hc
      refine ⟨_, _, hd, (mod_rng _ hm).1, (mod_rng _ hm).2, cs, _, _, rfl, h2, by omega, by omega, Int.ediv_nonneg ?_ (by omega)⟩
      have := hc.2
      omega
    · exact ⟨_, _, hd, (mod_rng _ hm).1, (mod_rng _ hm).2, cs, _, _, rfl, h2, by omega, by omega, by omega⟩
end SP
namespace SP
open PySem PySem.Spec L2 DL LC
theorem mul_big {i j : Int} (h0 : 0 ≤ i) (h1 : i < 2 ^ 4000) (h2 : 0 ≤ j) (h3 : j < 2 ^ 4000) : fMul (.int i) (.int j) = some (.int (i * j)) := by
  have a := bits_lt h0 h1
  have b := bits_lt h2 h3
  simp only [fMul, iMul, intF]
  rw [if_pos (by omega)]
theorem great_step {fd : Fn} {P : ME} {mm a s Z k a2 z2 : Int} {st st' : List Ob} (hP : ∀ s : S, P s = .ok (.int Z) s) (h1 : fMul (.int a) (.int Z) = some (.int a2)) (h2 : fd [.loc 0, .int Z] st = .ok (.int k) st') (h3 : fMul (.int s) (.int Z) = some (.int z2)) :
    mPar 2 3 (mCons (mBin fAdd (mBin fMul (mVar 2) P) (mCall fd (mCons (mVar 0) (mCons P mNil)))) (mCons (mBin fMul (mVar 3) P) mNil)) ⟨[.imm (.loc 0), .imm (.int mm), .imm (.int a), .imm (.int s)], st⟩ = .ok .nx ⟨[.imm (.loc 0), .imm (.int mm), .imm (.int (a2 + k)), .imm (.int z2)], st'⟩ := by
  simp [mPar, mCons, mNil, mBin, mVar, mCall, bnd, DL.ret, hP, h1, h2, h3, outR, lift, fAdd, S.put]
theorem great_test {mm a s : Int} {st : List Ob} : mBl (mBin iLt (mVar 3) (mVar 1)) ⟨[.imm (.loc 0), .imm (.int mm), .imm (.int a), .imm (.int s)], st⟩ = .ok (decide (s < mm)) ⟨[.imm (.loc 0), .imm (.int mm), .imm (.int a), .imm (.int s)], st⟩ := by
  simp [mBl, mBin, iLt, intF, mVar, bnd, DL.ret, lift, optB, isBl]
theorem p2le {a b : Nat} (h : a ≤ b) : (2 : Int) ^ a ≤ 2 ^ b := by
  have := Nat.pow_le_pow_right (n := 2) (by decide) h
  have e : ∀ k : Nat, ((2 ^ k : Nat) : Int) = (2 : Int) ^ k := fun k => by simp
  rw [← e a, ← e b]
  exact Int.ofNat_le.mpr this
theorem pow_up {a Z k : Int} {e : Nat} (h0 : 0 ≤ a) (h1 : a < 2 ^ e) (z0 : 0 < Z) (z1 : Z < 2 ^ 30) (k1 : k < Z) : a * Z + k < 2 ^ (e + 31) := by
  have e1 : (2 : Int) ^ (e + 31) = 2 ^ e * 2 ^ 31 := Int.pow_add 2 e 31
  have p : (1 : Int) ≤ 2 ^ e := by omega
  have m : a * Z ≤ 2 ^ e * 2 ^ 30 := Int.mul_le_mul (by omega) (by omega) (by omega) (by omega)
  have q : (2 : Int) ^ e * 2 ^ 31 = 2 ^ e * 2 ^ 30 + 2 ^ e * 2 ^ 30 := by
    have : (2 : Int) ^ 31 = 2 ^ 30 + 2 ^ 30 := by decide
    rw [this, Int.mul_add]
  have r : (2 : Int) ^ 30 ≤ 2 ^ e * 2 ^ 30 := by
    have := Int.mul_le_mul_of_nonneg_right p (show (0 : Int) ≤ 2 ^ 30 by decide)
    omega
  omega
theorem great_loop {P : ME} {mm Z : Int} {rs : List Ob} (hP : ∀ s : S, P s = .ok (.int Z) s) (z0 : 0 < Z) (z1 : Z < 2 ^ 30) : ∀ (n e B : Nat) (a s : Int) (st : List Ob), PenT B rs st → B + n < 2 ^ 30 → 0 ≤ a → a < 2 ^ e → 0 ≤ s → s < 2 ^ e → e + 31 * n ≤ 4000 → 31 ≤ e → mm ≤ s * Z ^ n →
    ∃ a' s' st', mWhile (mBl (mBin iLt (mVar 3) (mVar 1))) (mPar 2 3 (mCons (mBin fAdd (mBin fMul (mVar 2) P) (mCall f__law_draw (mCons (mVar 0) (mCons P mNil)))) (mCons (mBin fMul (mVar 3) P) mNil))) ⟨[.imm (.loc 0), .imm (.int mm), .imm (.int a), .imm (.int s)], st⟩ = .ok .nx ⟨[.imm (.loc 0), .imm (.int mm), .imm (.int a'), .imm (.int s')], st'⟩ ∧ PenT (B + n) rs st'
  | 0, e, B, a, s, st, hp, hB, a0, a1, s0, s1, he, he2, hm => by
    have t := great_test (mm := mm) (a := a) (s := s) (st := st)
    rw [decide_eq_false (by simp at hm; omega)] at t
    exact ⟨a, s, st, wh_end t, hp⟩
  | n + 1, e, B, a, s, st, hp, hB, a0, a1, s0, s1, he, he2, hm => by
    have t := great_test (mm := mm) (a := a) (s := s) (st := st)
    by_cases c : s < mm
    · rw [decide_eq_true c] at t
      obtain ⟨k, st1, e1, k0, k1, hp1⟩ := drawT hp (by omega) z0 (m := Z) (Int.lt_of_lt_of_le z1 (p2le (by omega)))
      have big : (2 : Int) ^ e ≤ 2 ^ 4000 := p2le (by omega)
      have zb : Z < 2 ^ 4000 := Int.lt_of_lt_of_le z1 (p2le (by omega))
      have b := great_step (mm := mm) (a := a) (s := s) hP (mul_big a0 (Int.lt_of_lt_of_le a1 big) (Int.le_of_lt z0) zb) e1 (mul_big s0 (Int.lt_of_lt_of_le s1 big) (Int.le_of_lt z0) zb)
      obtain ⟨a', s', st', e2, hp2⟩ := great_loop hP z0 z1 n (e + 31) (B + 1) (a * Z + k) (s * Z) st1 hp1 (by omega) (by have := Int.mul_nonneg a0 (show (0 : Int) ≤ Z by omega); omega) (pow_up a0 a1 z0 z1 k1) (Int.mul_nonneg s0 (by omega)) (by have := pow_up (k := 0) s0 s1 z0 z1 z0; omega) (by omega) (by omega) (by
        have : s * Z * Z ^ n = s * Z ^ (n + 1) := by rw [Int.pow_succ, Int.mul_assoc, Int.mul_comm Z]
        rw [this]; exact hm)
      exact ⟨a', s', st', by rw [wh_step t b]; exact e2, hp2.mono (by omega)⟩
    · rw [decide_eq_false c] at t
      exact ⟨a, s, st, wh_end t, hp.mono (by omega)⟩
end SP
namespace SP
open PySem PySem.Spec L2 DL LC
theorem great_gen {Wl : MS} {mm a s : Int} {st st' : List Ob} (hm : 0 < mm) (h : Wl ⟨[.imm (.loc 0), .imm (.int mm), .imm (.int 0), .imm (.int 1)], st⟩ = .ok .nx ⟨[.imm (.loc 0), .imm (.int mm), .imm (.int a), .imm (.int s)], st'⟩) :
    fnM 4 (mSeq (mAsg (gTL 2 (gsCons (gNm 2) (gsCons (gNm 3) gsNil))) (mTup (mCons (mC (.int 0)) (mCons (mC (.int 1)) mNil)))) (mSeq Wl (mRet (mBin iMod (mUn fInt (mLook 2)) (mVar 1))))) [.loc 0, .int mm] st = .ok (.int (a % mm)) st' := by
  have a1 : mAsg (gTL 2 (gsCons (gNm 2) (gsCons (gNm 3) gsNil))) (mTup (mCons (mC (.int 0)) (mCons (mC (.int 1)) mNil))) ⟨[.imm (.loc 0), .imm (.int mm), .emp, .emp], st⟩ = .ok .nx ⟨[.imm (.loc 0), .imm (.int mm), .imm (.int 0), .imm (.int 1)], st⟩ := by
    simp [mAsg, gTL, gsCons, gNm, gsNil, mTup, mCons, mNil, mC, bnd, DL.ret, few, S.puts, S.put]
  show endR (mSeq _ _ ⟨[.imm (.loc 0), .imm (.int mm), .emp, .emp], st⟩) = _
  rw [seq_nx a1, seq_nx h]
  simp [mRet, mBin, mUn, fInt, mLook, cur, mVar, bnd, DL.ret, lift, iMod, intF, hm, endR]
theorem pw9 (s : S) : mBin iPow (mC (.int 10)) (mC (.int 9)) s = .ok (.int (10 ^ 9)) s := by
  simp [mBin, mC, bnd, DL.ret, iPow, intF, lift]
theorem pw60 (s : S) : mBin iPow (mC (.int 10)) (mC (.int 60)) s = .ok (.int (10 ^ 60)) s := by
  simp [mBin, mC, bnd, DL.ret, iPow, intF, lift]
theorem lcs_one {g : MG} {m : ME} {vs : List Nat} {acc ds : List D} {d z : D} {l : List (Nat × D)} {s s2 : S} (h1 : g d = some l) (h2 : m (s.puts l) = .ok z s2) (h3 : noX s2 = true) (h4 : acc.length < 1000) : lcs g mYes m vs acc (d :: ds) s = lcs g mYes m vs (acc ++ [z]) ds (wipeS s2 vs) := by
  have f : few (acc.length + 1) := by unfold few; omega
  simp only [lcs, h1, mYes, DL.ret, h2, if_true, f, h3, and_self]
theorem lcs_inv {g : MG} {m : ME} {vs : List Nat} {I : Nat → S → Prop} {Q : D → Prop} {N : Nat} (hs : ∀ n s d, n < N → I n s → ∃ l z s2, g d = some l ∧ m (s.puts l) = .ok z s2 ∧ noX s2 = true ∧ Q z ∧ I (n + 1) (wipeS s2 vs)) :
    ∀ (ds acc : List D) (s : S) (n : Nat), I n s → n + ds.length ≤ N → acc.length + ds.length ≤ 1000 → ∃ zs s', lcs g mYes m vs acc ds s = .ok (acc ++ zs) s' ∧ zs.length = ds.length ∧ (∀ z ∈ zs, Q z) ∧ I (n + ds.length) s'
  | [], acc, s, n, hi, _, _ => ⟨[], s, by simp [lcs], rfl, fun z hz => by simp at hz, hi⟩
  | d :: ds, acc, s, n, hi, hN, hl => by
    simp at hN hl
    obtain ⟨l, z, s2, h1, h2, h3, h4, h5⟩ := hs n s d (by omega) hi
    obtain ⟨zs, s', e1, e2, e3, e4⟩ := lcs_inv hs ds (acc ++ [z]) (wipeS s2 vs) (n + 1) h5 (by omega) (by simp; omega)
    refine ⟨z :: zs, s', ?_, by simp [e2], fun y hy => ?_, ?_⟩
    · rw [lcs_one h1 h2 h3 (by omega), e1, List.append_assoc]; rfl
    · rcases List.mem_cons.mp hy with rfl | hy
      · exact h4
      · exact e3 y hy
    · have : n + (d :: ds).length = n + 1 + ds.length := by simp; omega
      rw [this]; exact e4
theorem lc_inv {it : MA} {g : MG} {m : ME} {vs : List Nat} {I : Nat → S → Prop} {Q : D → Prop} {N : Nat} {ds : List D} {s0 s : S} (hs : ∀ n s d, n < N → I n s → ∃ l z s2, g d = some l ∧ m (s.puts l) = .ok z s2 ∧ noX s2 = true ∧ Q z ∧ I (n + 1) (wipeS s2 vs))
    (hit : it s0 = .ok ds s) (hx : noX s = true) (hi : I 0 (wipeS s vs)) (hN : ds.length ≤ N) (hl : ds.length ≤ 1000) : ∃ zs s', mLc it g mYes m vs s0 = .ok zs s' ∧ zs.length = ds.length ∧ (∀ z ∈ zs, Q z) ∧ I ds.length s' := by
  obtain ⟨zs, s', e1, e2, e3, e4⟩ := lcs_inv hs ds [] (wipeS s vs) 0 hi (by omega) (by simp; omega)
  refine ⟨zs, s', ?_, e2, e3, by simpa using e4⟩
  simp only [mLc, bnd, hit, hx, if_true]
  rw [e1]; simp
theorem ints_len (a : Int) (n : Nat) : (intsD a n).length = n := by simp [intsD]
end SP
namespace SP
open PySem PySem.Spec L2 DL LC
theorem nd_len : ∀ {l S : List Int}, l.Nodup → (∀ x ∈ l, x ∈ S) → l.length ≤ S.length
  | [], S, _, _ => by simp
  | x :: l, S, h, hs => by
    have hx := hs x List.mem_cons_self
    have ih := nd_len (l := l) (S := S.erase x) (List.nodup_cons.mp h).2 fun y hy => by
      have ne : y ≠ x := fun e => (List.nodup_cons.mp h).1 (e ▸ hy)
      exact (List.mem_erase_of_ne ne).mpr (hs y (List.mem_cons_of_mem _ hy))
    rw [List.length_erase_of_mem hx] at ih
    have : 0 < S.length := List.length_pos_of_mem hx
    simp; omega
theorem up_nd {l : List Int} (h : Up l) : l.Nodup := h.imp fun h => by omega
theorem up_len {l S : List Int} (h : Up l) (hs : ∀ x ∈ l, x ∈ S) : l.length ≤ S.length := nd_len (up_nd h) hs
def aS (sc b c : Slot) (st : List Ob) : S := ⟨[sc, .imm (.loc 0), b, c, .emp, .emp, .emp, .emp, .emp, .emp, .emp, .emp, .emp, .emp, .emp, .emp, .emp], st⟩
end SP
namespace SP
open PySem PySem.Spec L2 DL LC
structure E where
  sc : Slot
  b : Slot
  r : Slot
  a6 : Slot
  a12 : Slot
  a13 : Slot
  a14 : Slot
def oS (e : E) (us vs : List D) (a7 a8 a9 a10 a11 : Slot) (st : List Ob) : S := ⟨[e.sc, .imm (.loc 0), e.b, e.r, .own us, .own vs, e.a6, a7, a8, a9, a10, a11, e.a12, e.a13, e.a14, .emp, .emp], st⟩
variable {e : E} {us vs : List D} {a7 a8 a9 a10 a11 : Slot} {st st' s1 s2 s3 : List Ob}
theorem gnm {n : Nat} {d : D} : gNm n d = some [(n, d)] := rfl
theorem fo_nil {g : MG} {b : MS} {s : S} : fo g b [] s = .ok .nx s := rfl
theorem rng_nat {n : Nat} (h : n < 1000) : rng1 [.int n] = some (intsD 0 n) := by
  have : ∀ j : Int, -(2 ^ 62) ≤ j ∧ j < 2 ^ 62 → rng1 [.int j] = some (intsD 0 j.toNat) := fun j hj => by simp only [rng1]; rw [if_pos hj]
  rw [this n ⟨by omega, by omega⟩, Int.toNat_natCast]
end SP
namespace SP
open PySem PySem.Spec L2 DL LC
abbrev Ls := List (Nat × List Int)
def lo (p : Nat × List Int) : D := .loc (p.1 + 1)
structure Iv (S0 : List Int) (rs : List Ob) (L : Ls) : Prop where
  cell : ∀ (k : Nat) (p : Nat × List Int), L[k]? = some p → rs[p.1]? = some (spO (pD p.2))
  dif : ∀ (k1 k2 : Nat) (p1 p2 : Nat × List Int), L[k1]? = some p1 → L[k2]? = some p2 → p1.1 = p2.1 → k1 = k2
  tp : ∀ p ∈ L, ∃ f, Tp p.2 f
  sub : ∀ p ∈ L, ∀ x ∈ p.2, x ∈ S0
  few : L.length ≤ 7
  ne : 0 < L.length
  z : (0 : Int) ∈ S0
  s : S0.length ≤ 49
section
variable {S0 : List Int} {rs st : List Ob} {L : Ls} {B : Nat}
theorem Iv.len (h : Iv S0 rs L) {p : Nat × List Int} (hp : p ∈ L) : p.2.length ≤ 49 := by
  obtain ⟨f, t⟩ := h.tp p hp
  exact Nat.le_trans (up_len t.up (h.sub p hp)) h.s
theorem PenT.at (h : PenT B rs st) (n : Nat) : st[n + 1]? = rs[n]? := by
  obtain ⟨cs, b, r, rfl, _⟩ := h
  rfl
theorem PenT.app (h : PenT B rs st) (more : List Ob) : PenT B (rs ++ more) (st ++ more) := by
  obtain ⟨cs, b, r, rfl, h2⟩ := h
  exact ⟨cs, b, r, rfl, h2⟩
theorem PenT.len (h : PenT B rs st) : st.length = rs.length + 1 := by
  obtain ⟨cs, b, r, rfl, h2⟩ := h
  rfl
end
end SP
namespace SP
open PySem PySem.Spec L2 DL LC
noncomputable def g0 : MS := mIfS (mBl (mBin fEq (mVar 9) (mC (.int 0)))) (mAugO 10 "Span" f_Span___ior__ (mVar 11)) mPass
noncomputable def g1 : MS := mIfS (mBl (mBin fEq (mVar 9) (mC (.int 1)))) (mAugO 10 "Span" f_Span___iand__ (mVar 11)) mPass
noncomputable def g2 : MS := mIfS (mBl (mBin fEq (mVar 9) (mC (.int 2)))) (mAugO 10 "Span" f_Span___isub__ (mVar 11)) mPass
noncomputable def gA : MS := mSetIx 5 (mVar 7) (mCall f__law_mixed_up (mCons (mIxN 5 (mVar 7)) (mCons (mIxN 5 (mVar 8)) (mCons (mVar 9) mNil))))
noncomputable def gB : MS := (mSeq (mSet 12 (mIf (mBl (mBin fEq (mVar 9) (mC (.int 3)))) (mOp2 "Span" f_Span___or__ (mVar 10) (mVar 11)) (mOp1 "Span" f_Span___invert__ (mOp2 "Span" f_Span___xor__ (mVar 10) (mVar 11)))))
  (mSeq (mExpr (mApp 4 (mVar 12)))
  (mSeq (mSet 13 (mCall f__law_mixed_up (mCons (mIxN 5 (mVar 7)) (mCons (mIxN 5 (mVar 8)) (mCons (mIf (mBl (mBin fEq (mVar 9) (mC (.int 3)))) (mC (.int 0)) (mC (.int 3))) mNil)))))
  (mExpr (mApp 5 (mIf (mBl (mBin fEq (mVar 9) (mC (.int 3)))) (mVar 13) (mCall f__law_mixed_up (mCons (mTup (mCons (mTup (mCons (mC (.int 0)) (mCons (mC .non) mNil))) mNil)) (mCons (mVar 13) (mCons (mC (.int 2)) mNil))))))))))
noncomputable def gC : MS := mIfS (mBl (mBin iLt (mVar 9) (mC (.int 3)))) gA (mIfS (mBl (mBin iLt (mUn fLen (mLook 4)) (mC (.int 7)))) gB mPass)
end SP
namespace SP
open PySem PySem.Spec L2 DL LC
noncomputable def gD : MS := mPar3 7 8 9 (mCons (mCall f__law_draw (mCons (mVar 1) (mCons (mUn fLen (mLook 4)) mNil))) (mCons (mCall f__law_draw (mCons (mVar 1) (mCons (mUn fLen (mLook 4)) mNil))) (mCons (mCall f__law_draw (mCons (mVar 1) (mCons (mC (.int 5)) mNil))) mNil)))
def gP : MS := mPar 10 11 (mCons (mIxN 4 (mVar 7)) (mCons (mIxN 4 (mVar 8)) mNil))
noncomputable def gI1 : MS := mIfS (mNotT (mTru (mCall f__law_span_is (mCons (mVar 10) (mCons (mIxN 5 (mVar 7)) mNil))))) (mRet (mC (.bl false))) mPass
noncomputable def gF : MS := mFor (mRng rng1 (mCons (mUn fLen (mLook 4)) mNil)) (gNm 14) (mIfS (mNotT (mTru (mCall f__law_span_is (mCons (mIxN 4 (mVar 14)) (mCons (mIxN 5 (mVar 14)) mNil))))) (mRet (mC (.bl false))) mPass)
noncomputable def deed : MS := mSeq gD (mSeq gP (mSeq g0 (mSeq g1 (mSeq g2 (mSeq gC (mSeq gI1 gF))))))
noncomputable def lawM : MS := (mSeq (mSet 1 (mCall f__law_pen (mCons (mVar 0) mNil)))
  (mSeq (mSet 2 (mCall f__law_base (mCons (mVar 1) mNil)))
  (mSeq (mOwn 3 (mLc (mRng rng1 (mCons (mC (.int 3)) mNil)) (gNm 15) mYes (mCall f__law_stretches (mCons (mVar 1) (mCons (mVar 2) mNil))) [15]))
  (mSeq (mParFF 4 5 (mLc (mIt (mVar 3)) (gNm 16) mYes (mMake "Span" f_Span___init__ (mCons (mVar 16) mNil)) [16]) (mLc (mIt (mVar 3)) (gNm 16) mYes (mCall f__law_united (mCons (mVar 16) mNil)) [16]))
  (mSeq (mFor (mRng rng1 (mCons (mBin fAdd (mC (.int 4)) (mMin2 (mCons (mC (.int 9)) (mCons (mUn fLen (mLook 0)) mNil)))) mNil)) (gNm 6) deed) (mRet (mC (.bl true))))))))
theorem ret_true {s : S} : endR (mRet (mC (.bl true)) s) = .ok (.bl true) s.st := rfl
def e0 (d0 : D) (b r : Slot) : E := ⟨.imm d0, b, r, .emp, .emp, .emp, .emp⟩
end SP
namespace SP
open PySem PySem.Spec L2 DL LC
end SP
namespace SP
open PySem PySem.Spec L2 DL LC
def sh (by_ : Int) (s : Sq) : Sq := (s.1 + by_, s.2.map (· + by_))
def kp (s : Sq) : Option Sq := match s.2 with
  | none => some (if 0 < s.1 then s.1 else 0, none)
  | some h => if 0 ≤ h then some (if 0 < s.1 then s.1 else 0, some h) else none
def mv (by_ : Int) (l : List Sq) : List Sq := (l.map (sh by_)).filterMap kp
end SP
namespace SP
open PySem PySem.Spec L2 DL LC
theorem un_fz {g : D → Option D} {m : MA} {ds : List D} {v : D} {s s' : S} (h : m s = .ok ds s') (h2 : g (.lst ds) = some v) : mUn g (mFz m) s = .ok v s' := by
  simp only [mUn, mFz, bnd, h, DL.ret, h2, lift]
end SP
namespace SP
open PySem PySem.Spec L2 DL LC
end SP
namespace SP
open PySem PySem.Spec L2 DL LC
theorem mul_side {s k : Int} (hs : s = 1 ∨ s = -1) (h0 : 0 ≤ k) (h1 : k < 2 ^ 4000) : fMul (.int s) (.int k) = some (.int (s * k)) := by
  have a := bits_lt h0 h1
  have b : bits s ≤ 10 := by rcases hs with rfl | rfl <;> decide +kernel
  simp only [fMul, iMul, intF]
  rw [if_pos (by omega)]
abbrev iS (w s : Int) (st : List Ob) : S := ⟨[.imm (.loc 0), .imm (.int w), .imm (.int s)], st⟩
theorem i_first {fd : Fn} {w d : Int} {st s1 s2 : List Ob} (h1 : fd [.loc 0, .int 9] st = .ok (.int w) s1) (h2 : fd [.loc 0, .int 2] s1 = .ok (.int d) s2) (hm : fMul (.int 2) (.int d) = some (.int (2 * d))) : mPar 1 2 (mCons (mCall fd (mCons (mVar 0) (mCons (mC (.int 9)) mNil))) (mCons (mBin iSub (mC (.int 1)) (mBin fMul (mC (.int 2)) (mCall fd (mCons (mVar 0) (mCons (mC (.int 2)) mNil))))) mNil)) ⟨[.imm (.loc 0), .emp, .emp], st⟩ = .ok .nx (iS w (1 - 2 * d) s2) := by
  simp [iS, mPar, mCons, mNil, mCall, mVar, mC, mBin, iSub, intF, bnd, DL.ret, h1, h2, hm, outR, lift, S.put]
theorem i_if {w s c : Int} {A B : MS} {st : List Ob} : mIfS (mBl (mBin fEq (mVar 1) (mC (.int c)))) A B (iS w s st) = if w = c then A (iS w s st) else B (iS w s st) := by
  by_cases h : w = c <;> simp [iS, mIfS, mBl, mBin, mVar, mC, bnd, DL.ret, lift, eq_int, h, optB, isBl]
theorem i_lt {w s c : Int} {A B : MS} {st : List Ob} : mIfS (mBl (mBin iLt (mVar 1) (mC (.int c)))) A B (iS w s st) = if w < c then A (iS w s st) else B (iS w s st) := by
  by_cases h : w < c <;> simp [iS, mIfS, mBl, mBin, mVar, mC, bnd, DL.ret, lift, iLt, intF, h, optB, isBl]
theorem i_ret {fd : Fn} {w s k z : Int} {c : D} {st st' : List Ob} (h : fd [.loc 0, c] st = .ok (.int k) st') (hm : fMul (.int s) (.int k) = some (.int z)) : mRet (mBin fMul (mVar 2) (mCall fd (mCons (mVar 0) (mCons (mC c) mNil)))) (iS w s st) = .ok (.rt (.int z)) (iS w s st') := by
  simp [iS, mRet, mBin, mVar, mCall, mCons, mNil, mC, bnd, DL.ret, h, outR, hm, lift]
theorem i_last {fd fg : Fn} {P : ME} {w s k z mm : Int} {st st' : List Ob} (hP : ∀ s : S, P s = .ok (.int mm) s) (h : (w = 7 ∧ ∃ d, fd [.loc 0, .int 3] st = .ok (.int d) st' ∧ k = mm - d) ∨ (¬ w = 7 ∧ fg [.loc 0, .int mm] st = .ok (.int k) st')) (hm : fMul (.int s) (.int k) = some (.int z)) :
    mRet (mBin fMul (mVar 2) (mIf (mBl (mBin fEq (mVar 1) (mC (.int 7)))) (mBin iSub P (mCall fd (mCons (mVar 0) (mCons (mC (.int 3)) mNil)))) (mCall fg (mCons (mVar 0) (mCons P mNil))))) (iS w s st) = .ok (.rt (.int z)) (iS w s st') := by
  rcases h with ⟨hw, d, h, rfl⟩ | ⟨hw, h⟩
  · simp [iS, mRet, mBin, mVar, mIf, mBl, mCall, mCons, mNil, mC, bnd, DL.ret, h, hP, outR, hm, lift, eq_int, hw, optB, isBl, iSub, intF]
  · simp [iS, mRet, mBin, mVar, mIf, mBl, mCall, mCons, mNil, mC, bnd, DL.ret, h, hP, outR, hm, lift, eq_int, hw, optB, isBl]
theorem great_lt {B : Nat} {rs st : List Ob} {mm : Int} (h : PenT B rs st) (hB : B + 7 < 2 ^ 30) (h0 : 0 < mm) (h1 : mm ≤ 1 * (10 ^ 9) ^ 7) : ∃ k st', f__law_great [.loc 0, .int mm] st = .ok (.int k) st' ∧ 0 ≤ k ∧ k < mm ∧ PenT (B + 7) rs st' := by
  obtain ⟨a, s, st', e, p⟩ := great_loop pw9 (mm := mm) (by decide) (by decide) 7 31 B 0 1 st h hB (by decide) (by decide) (by decide) (by decide) (by decide) (by decide) h1
  exact ⟨a % mm, st', great_gen h0 e, (mod_rng a h0).1, (mod_rng a h0).2, p⟩
theorem lt_big {k : Int} {e : Nat} (h : k < 2 ^ e) (he : e ≤ 4000) : k < 2 ^ 4000 := Int.lt_of_lt_of_le h (p2le he)
theorem int_all {A0 A1 A2 A3 A4 : MS} {st s1 : List Ob} {w s : Int} {z : D} {st' : List Ob} (h0 : A0 ⟨[.imm (.loc 0), .emp, .emp], st⟩ = .ok .nx (iS w s s1)) (h : (mSeq A1 (mSeq A2 (mSeq A3 A4))) (iS w s s1) = .ok (.rt z) (iS w s st')) : fnM 3 (mSeq A0 (mSeq A1 (mSeq A2 (mSeq A3 A4)))) [.loc 0] st = .ok z st' := by
  show endR (mSeq _ _ ⟨[.imm (.loc 0), .emp, .emp], st⟩) = _
  rw [seq_nx h0, h]; rfl
theorem pick_gen {fd : Fn} {ds : List D} {k : D} {d : D} {st st' : List Ob} (h : fd [.loc 0, .int ds.length] st = .ok k st') (hd : ixD (.lst ds) k = some d) : fnM 2 (mRet (mIxN 1 (mCall fd (mCons (mVar 0) (mCons (mUn fLen (mLook 1)) mNil))))) [.loc 0, .lst ds] st = .ok d st' := by
  simp [fnM, mRet, mIxN, mIxV, mCall, mCons, mNil, mVar, mUn, fLen, itD, mLook, cur, bnd, DL.ret, lift, slots, h, outR, hd, endR]
theorem pickT {B : Nat} {rs st : List Ob} {ds : List D} (h : PenT B rs st) (hB : B < 2 ^ 30) (h0 : 0 < ds.length) (hl : ds.length < 1000) : ∃ d st', f__law_pick [.loc 0, .lst ds] st = .ok d st' ∧ d ∈ ds ∧ PenT (B + 1) rs st' := by
  obtain ⟨k, st', e, k0, k1, hp'⟩ := drawT (m := ds.length) h hB (by omega) (by omega)
  obtain ⟨d, hd, hm⟩ := atI_get k0 k1
  exact ⟨d, st', pick_gen e hd, hm, hp'⟩
end SP
namespace SP
open PySem PySem.Spec L2 DL LC
structure Q where
  sc : Slot
  ag : Slot
  b : Slot
  rows : Slot
  oth : Slot
  way : Slot
  fi : Slot
  se : Slot
  on : Slot
  tw : Slot
  po : Slot
  ma : Slot
  du : Slot
  by_ : Slot
  pa : Slot
  ba : Slot
def cl : Slot → Bool
  | .xn _ => false
  | _ => true
variable {q : Q} {st st' s1 s2 s3 : List Ob}
abbrev lcm (el : ME) : MA := mLc (mIt (mVar 12)) (gTp 2 (gsCons (gNm 18) (gsCons (gNm 19) gsNil))) mYes el [18, 19]
end SP
namespace SP
open PySem PySem.Spec L2 DL LC
variable {q q' : Q} {st st' s1 s2 s3 s4 : List Ob}
theorem bls_true : ∀ ds : List D, blsD (ds.map fun _ => D.bl true) = some (ds.map fun _ => true)
  | [] => rfl
  | d :: ds => by simp [blsD, bls_true ds]
theorem all_trueD (ds : List D) : fAll (.lst (ds.map fun _ => D.bl true)) = some (.bl true) := by
  simp [fAll, bls_true]
theorem bls_bl : ∀ bs : List Bool, blsD (bs.map .bl) = some bs
  | [] => rfl
  | b :: r => by simp [blsD, bls_bl r]
theorem all_bl (bs : List Bool) : fAll (.lst (bs.map .bl)) = some (.bl (bs.all id)) := by
  simp [fAll, bls_bl]
end SP
namespace SP
open PySem PySem.Spec L2 DL LC
noncomputable section
def n1 : MS := mSet 3 (mCall f__law_base (mCons (mVar 1) mNil))
def n2 : MS := mPar 4 5 (mCons (mCall f__law_stretches (mCons (mVar 1) (mCons (mVar 3) mNil))) (mCons (mCall f__law_stretches (mCons (mVar 1) (mCons (mVar 3) mNil))) mNil))
def n3 : MS := mSet 6 (mCall f__law_draw (mCons (mVar 1) (mCons (mC (.int 4)) mNil)))
def n4 : MS := mIfS (mBl (mBin fEq (mVar 6) (mC (.int 0)))) (mSet 5 (mBin fAdd (mVar 5) (mVar 4))) mPass
def n5 : MS := mIfS (mBl (mBin fEq (mVar 6) (mC (.int 1)))) (mSet 5 (mSlN 4 mNoP (mPart (mCall f__law_draw (mCons (mVar 1) (mCons (mBin fAdd (mUn fLen (mLook 4)) (mC (.int 1))) mNil)))))) mPass
def n6 : MS := mAsg (gTL 2 (gsCons (gNm 7) (gsCons (gNm 8) gsNil))) (mTup (mCons (mCall f__law_united (mCons (mVar 4) mNil)) (mCons (mCall f__law_united (mCons (mVar 5) mNil)) mNil)))
def n7 : MS := mPar 9 10 (mCons (mMake "Span" f_Span___init__ (mCons (mVar 4) mNil)) (mCons (mMake "Span" f_Span___init__ (mCons (mVar 5) mNil)) mNil))
def n8 : MS := mSet 11 (mCall f__law_points (mCons (mBin fAdd (mVar 7) (mVar 8)) mNil))
def n9 : MS := mOwn 12 (mLc (mIt (mVar 11)) (gNm 17) mYes (mTup (mCons (mCall f__law_within (mCons (mVar 7) (mCons (mVar 17) mNil))) (mCons (mCall f__law_within (mCons (mVar 8) (mCons (mVar 17) mNil))) mNil))) [17])
def n10 : MS := mOwn 13 (mLst (mCons (mTup (mCons (mOp2 "Span" f_Span___or__ (mVar 9) (mVar 10)) (mCons (mFz (lcm (mOr (mVar 18) (mVar 19)))) mNil))) (mCons (mTup (mCons (mOp2 "Span" f_Span___and__ (mVar 9) (mVar 10)) (mCons (mFz (lcm (mAnd (mVar 18) (mVar 19)))) mNil))) mNil)))
def n11 : MS := mOwn 13 (mBinF lAddL (mVar 13) (mFz (mLst (mCons (mTup (mCons (mOp2 "Span" f_Span___sub__ (mVar 9) (mVar 10)) (mCons (mFz (lcm (mAnd (mVar 18) (mNot (mVar 19))))) mNil))) (mCons (mTup (mCons (mOp2 "Span" f_Span___xor__ (mVar 9) (mVar 10)) (mCons (mFz (lcm (mBin fNe (mVar 18) (mVar 19)))) mNil))) mNil)))))
def n12 : MS := mOwn 13 (mBinF lAddL (mVar 13) (mFz (mLst (mCons (mTup (mCons (mOp1 "Span" f_Span___invert__ (mVar 9)) (mCons (mFz (lcm (mNot (mVar 18)))) mNil))) (mCons (mTup (mCons (mOp2 "Span" f_Span___sub__ (mVar 10) (mVar 9)) (mCons (mFz (lcm (mAnd (mVar 19) (mNot (mVar 18))))) mNil))) mNil)))))
def n13 : MS := mIfS (mNotT (mTru (mUn fAll (mFz (mLc (mIt (mVar 13)) (gTp 2 (gsCons (gNm 20) (gsCons (gNm 21) gsNil))) mYes (mCall f__law_span_is (mCons (mVar 20) (mCons (mCall f__law_spread (mCons (mVar 11) (mCons (mVar 21) mNil))) mNil))) [20, 21]))))) (mRet (mC (.bl false))) mPass
def n14 : MS := mSet 14 (mCall f__law_pick (mCons (mVar 1) (mCons (mFz (mLst (mCons (mCall f__law_integer (mCons (mVar 1) mNil)) (mCons (mUn iNeg (mVar 3)) (mCons (mBin iSub (mBin iSub (mC (.int 1)) (mVar 3)) (mCall f__law_draw (mCons (mVar 1) (mCons (mC (.int 30)) mNil)))) (mCons (mCall f__law_draw (mCons (mVar 1) (mCons (mC (.int 9)) mNil))) mNil)))))) mNil)))
def n15 : MS := mIfS (mNotT (mTru (mCall f__law_span_is (mCons (mOpI "Span" f_Span___rshift__ (mVar 9) (mVar 14)) (mCons (mCall f__law_moved_by (mCons (mVar 7) (mCons (mVar 14) mNil))) mNil))))) (mRet (mC (.bl false))) mPass
def n16 : MS := mIfS (mNotT (mTru (mCall f__law_span_is (mCons (mOpI "Span" f_Span___lshift__ (mVar 9) (mVar 14)) (mCons (mCall f__law_moved_by (mCons (mVar 7) (mCons (mUn iNeg (mVar 14)) mNil))) mNil))))) (mRet (mC (.bl false))) mPass
def n17 : MS := mPar 15 16 (mCons (mUn fAll (mFz (lcm (mOr (mVar 19) (mNot (mVar 18)))))) (mCons (mUn fAll (mFz (lcm (mOr (mVar 18) (mNot (mVar 19)))))) mNil))
def n18 : MS := mIfS (mOrT (mNotT (mTru (mCall f__law_orders (mCons (mVar 9) (mCons (mVar 10) (mCons (mVar 15) (mCons (mVar 16) mNil))))))) (mNotT (mTru (mCall f__law_orders (mCons (mVar 10) (mCons (mVar 9) (mCons (mVar 16) (mCons (mVar 15) mNil)))))))) (mRet (mC (.bl false))) mPass
def n19 : MS := mIfS (mOrT (mNotT (mTru (mCall f__law_span_is (mCons (mVar 9) (mCons (mVar 7) mNil))))) (mOrT (mNotT (mTru (mCall f__law_span_is (mCons (mVar 10) (mCons (mVar 8) mNil))))) (mOrT (mBl (mCmpO "Span" f_Span___eq__ (mVar 9) (mC (.int 3)))) (mBl (mCmpO "Span" f_Span___eq__ (mVar 10) (mVar 8)))))) (mRet (mC (.bl false))) mPass
def turn : MS := mSeq n1 (mSeq n2 (mSeq n3 (mSeq n4 (mSeq n5 (mSeq n6 (mSeq n7 (mSeq n8 (mSeq n9 (mSeq n10 (mSeq n11 (mSeq n12 (mSeq n13 (mSeq n14 (mSeq n15 (mSeq n16 (mSeq n17 (mSeq n18 n19)))))))))))))))))
end
end SP
namespace SP
open PySem PySem.Spec L2 DL LC
end SP
namespace SP
open PySem PySem.Spec L2 DL LC
end SP
namespace SP
open PySem PySem.Spec L2 DL LC
end SP
namespace SP
open PySem PySem.Spec L2 DL LC
def q0 (sc : Slot) : Q := ⟨sc, .emp, .emp, .emp, .emp, .emp, .emp, .emp, .emp, .emp, .emp, .emp, .emp, .emp, .emp, .emp⟩
end SP
namespace SZ
open DL
def fl (n : Int) : Nat → Int
  | 0 => 1
  | k + 1 => fl n k * (n - k)
def fc : Nat → Int
  | 0 => 1
  | k + 1 => fc k * (k + 1)
theorem fc_pos : ∀ k, 0 < fc k
  | 0 => by decide
  | k + 1 => Int.mul_pos (fc_pos k) (by omega)
theorem fl_zero (k : Nat) : fl 0 (k + 1) = 0 := by
  induction k with
  | zero => simp [fl]
  | succ k ih => rw [fl, ih]; simp
/-- fl (n + 1) (k + 1) = (n + 1) * fl n k -/
theorem fl_first (n : Int) : ∀ k, fl (n + 1) (k + 1) = (n + 1) * fl n k
  | 0 => by simp [fl]
  | k + 1 => by
    have e : ((k + 1 : Nat) : Int) = k + 1 := by omega
    rw [fl, fl_first n k, e, Int.mul_assoc, fl]
    congr 1
    congr 1
    omega
theorem fl_diff (n : Int) (k : Nat) : fl (n + 1) (k + 1) - fl n (k + 1) = (k + 1) * fl n k := by
  rw [fl_first, fl, Int.mul_comm (fl n k), ← Int.sub_mul]
  congr 1
  omega
/-- two-sided induction -/
theorem all_int {P : Int → Prop} (h0 : P 0) (hs : ∀ n, P n ↔ P (n + 1)) : ∀ n, P n := by
  have up : ∀ k : Nat, P k := fun k => by
    induction k with
    | zero => exact h0
    | succ k ih => exact (hs k).mp ih
  have dn : ∀ k : Nat, P (-(k : Int)) := fun k => by
    induction k with
    | zero => exact h0
    | succ k ih =>
      refine (hs _).mpr ?_
      have e : -((k + 1 : Nat) : Int) + 1 = -(k : Int) := by omega
      rw [e]; exact ih
  intro n
  by_cases h : 0 ≤ n
  · have := up n.toNat
    rwa [Int.toNat_of_nonneg h] at this
  · have := dn (-n).toNat
    have e : -(((-n).toNat : Nat) : Int) = n := by omega
    rwa [e] at this
theorem fl_dvd : ∀ (k : Nat) (n : Int), fc k ∣ fl n k
  | 0, n => by simp [fc, fl]
  | k + 1, n => by
    refine all_int (P := fun n => fc (k + 1) ∣ fl n (k + 1)) (by rw [fl_zero]; exact Int.dvd_zero _) (fun n => ?_) n
    have d : fc (k + 1) ∣ fl (n + 1) (k + 1) - fl n (k + 1) := by
      rw [fl_diff, fc, Int.mul_comm (fc k)]
      exact Int.mul_dvd_mul_left _ (fl_dvd k n)
    constructor
    · intro h
      have := Int.dvd_add d h
      rwa [Int.sub_add_cancel] at this
    · intro h
      have := Int.dvd_sub h d
      have e : fl (n + 1) (k + 1) - (fl (n + 1) (k + 1) - fl n (k + 1)) = fl n (k + 1) := by omega
      rwa [e] at this
def ch (n : Int) (k : Nat) : Int := fl n k / fc k
theorem ch_fl (n : Int) (k : Nat) : fc k * ch n k = fl n k := Int.mul_ediv_cancel' (fl_dvd k n)
theorem ch_zero (n : Int) : ch n 0 = 1 := by simp [ch, fl, fc]
theorem ch_at0 (k : Nat) : ch 0 (k + 1) = 0 := by rw [ch, fl_zero]; simp
theorem ch_step (n : Int) (k : Nat) : ch n k * (n - k) = (k + 1) * ch n (k + 1) := by
  have a := ch_fl n k
  have b := ch_fl n (k + 1)
  rw [fl, ← a, fc] at b
  have p := fc_pos k
  have e : fc k * (ch n k * (n - k)) = fc k * ((k + 1) * ch n (k + 1)) := by
    rw [← Int.mul_assoc, ← b, Int.mul_assoc]
  exact Int.eq_of_mul_eq_mul_left (by omega) e
theorem ch_next (n : Int) (k : Nat) : ch n k * (n - k) / (k + 1) = ch n (k + 1) := by
  rw [ch_step, Int.mul_comm]
  exact Int.mul_ediv_cancel _ (by omega)
theorem pascal (n : Int) (k : Nat) : ch (n + 1) (k + 1) - ch n (k + 1) = ch n k := by
  have d := fl_diff n k
  rw [← ch_fl (n + 1) (k + 1), ← ch_fl n (k + 1), ← ch_fl n k, ← Int.mul_sub, fc] at d
  have p := fc_pos k
  have e : fc k * (k + 1) * (ch (n + 1) (k + 1) - ch n (k + 1)) = fc k * (k + 1) * ch n k := by
    rw [d, ← Int.mul_assoc, Int.mul_comm (k + 1 : Int)]
  exact Int.eq_of_mul_eq_mul_left (by have := Int.mul_pos p (show (0 : Int) < k + 1 by omega); omega) e
def rvA : List Int → Int → Nat → Int
  | [], _, _ => 0
  | a :: r, n, k => a * ch n k + rvA r n (k + 1)
/-- the value of a row -/
def rv (row : List Int) (n : Int) : Int := rvA row n 0
theorem rvA_diff : ∀ (r : List Int) (n : Int) (k : Nat), rvA r (n + 1) (k + 1) - rvA r n (k + 1) = rvA r n k
  | [], _, _ => by simp [rvA]
  | a :: r, n, k => by
    have ih := rvA_diff r n (k + 1)
    have p := pascal n k
    simp only [rvA]
    have e : a * ch (n + 1) (k + 1) - a * ch n (k + 1) = a * ch n k := by rw [← Int.mul_sub, p]
    omega
theorem rv_diff (a : Int) (r : List Int) (n : Int) : rv (a :: r) (n + 1) - rv (a :: r) n = rv r n := by
  have := rvA_diff r n 0
  show a * ch (n + 1) 0 + rvA r (n + 1) 1 - (a * ch n 0 + rvA r n 1) = rvA r n 0
  rw [ch_zero, ch_zero]
  have t : rvA r (n + 1) 1 - rvA r n 1 = rvA r n 0 := this
  omega
theorem rvA_at0 : ∀ (r : List Int) (k : Nat), rvA r 0 (k + 1) = 0
  | [], _ => rfl
  | a :: r, k => by simp [rvA, ch_at0, rvA_at0 r (k + 1)]
theorem rv_at0 (a : Int) (r : List Int) : rv (a :: r) 0 = a := by simp [rv, rvA, ch_zero, rvA_at0]
/-- without the zeros at the end -/
def trm : List Int → List Int
  | [] => []
  | a :: r => match trm r with
    | [] => if a = 0 then [] else [a]
    | b :: t => a :: b :: t
theorem trm_split : ∀ r : List Int, ∃ m, r = trm r ++ List.replicate m 0
  | [] => ⟨0, rfl⟩
  | a :: r => by
    obtain ⟨m, e⟩ := trm_split r
    cases h : trm r with
    | nil =>
      rw [h] at e
      by_cases ha : a = 0
      · exact ⟨m + 1, by simp [trm, h, ha, List.replicate_succ, ← e]; exact e⟩
      · refine ⟨m, ?_⟩
        simp [trm, h, ha]
        simpa using e
    | cons b t =>
      rw [h] at e
      refine ⟨m, ?_⟩
      simp only [trm, h]
      rw [List.cons_append, List.cons_append]
      rw [List.cons_append] at e
      rw [← e]
theorem trm_zeros : ∀ (r : List Int) (m : Nat), trm (r ++ List.replicate m 0) = trm r
  | [], m => by
    induction m with
    | zero => rfl
    | succ m ih =>
      have ih' : trm (List.replicate m 0) = [] := ih
      show trm (List.replicate (m + 1) 0) = []
      rw [List.replicate_succ, trm, ih']
      rfl
  | a :: r, m => by
    rw [List.cons_append, trm, trm, trm_zeros r m]
theorem trm_len (r : List Int) : (trm r).length ≤ r.length := by
  obtain ⟨m, e⟩ := trm_split r
  have := congrArg List.length e
  simp at this
  omega
theorem trm_last : ∀ (r : List Int), trm r = r ∨ ∃ s, r = s ++ [0]
  | [] => .inl rfl
  | a :: r => by
    rcases trm_last r with h | ⟨s, h⟩
    · cases r with
      | nil =>
        by_cases ha : a = 0
        · exact .inr ⟨[], by rw [ha]; rfl⟩
        · exact .inl (by simp [trm, ha])
      | cons b t => exact .inl (by rw [trm, h])
    · exact .inr ⟨a :: s, by rw [h]; rfl⟩
/-- the row, moved -/
def mvR (row : List Int) (b : Int) : List Int := match row with
  | [] => []
  | a :: r => rv (a :: r) b :: mvR r b
theorem mvR_len : ∀ (row : List Int) (b : Int), (mvR row b).length = row.length
  | [], _ => rfl
  | a :: r, b => by simp [mvR, mvR_len r b]
def dif : List Int → List Int
  | a :: b :: r => (b - a) :: dif (b :: r)
  | _ => []
def ndN : Nat → List Int → List Int
  | 0, _ => []
  | _ + 1, [] => []
  | n + 1, a :: r => a :: ndN n (dif (a :: r))
/-- first values of all differences -/
def nd (l : List Int) : List Int := ndN l.length l
/-- the values of a row at 0 .. m - 1, moved -/
def vals (row : List Int) (b : Int) (m : Nat) : List Int := (List.range m).map fun (k : Nat) => rv row ((k : Int) + b)
theorem mvR_get : ∀ (row : List Int) (b : Int), mvR row b = (List.range row.length).map fun k => rv (row.drop k) b
  | [], _ => rfl
  | a :: r, b => by
    rw [mvR, mvR_get r b, List.length_cons, List.range_succ_eq_map, List.map_cons, List.map_map]
    rfl
end SZ
namespace SZ
open PySem PySem.Spec L2 DL LC SP
def sm (b : Nat) (x : Int) : Prop := x.natAbs < 2 ^ b
theorem sm_mono {a b : Nat} {x : Int} (h : sm a x) (l : a ≤ b) : sm b x := Nat.lt_of_lt_of_le h (Nat.pow_le_pow_right (by decide) l)
theorem sm_mul {a b : Nat} {x y : Int} (h1 : sm a x) (h2 : sm b y) : sm (a + b) (x * y) := by
  unfold sm at *
  rw [Int.natAbs_mul, Nat.pow_add]
  exact Nat.mul_lt_mul'' h1 h2
theorem sm_add {a : Nat} {x y : Int} (h1 : sm a x) (h2 : sm a y) : sm (a + 1) (x + y) := by
  unfold sm at *
  have := Int.natAbs_add_le x y
  rw [Nat.pow_succ]
  omega
theorem sm_neg {a : Nat} {x : Int} (h : sm a x) : sm a (-x) := by unfold sm at *; rw [Int.natAbs_neg]; exact h
theorem sm_sub {a : Nat} {x y : Int} (h1 : sm a x) (h2 : sm a y) : sm (a + 1) (x - y) := by
  rw [Int.sub_eq_add_neg]; exact sm_add h1 (sm_neg h2)
theorem sm_bits {a : Nat} {x : Int} (h : sm a x) : bits x ≤ a := by
  unfold bits
  by_cases z : x.natAbs = 0
  · rw [z]; simp
  · have := (Nat.log2_lt z).mpr h
    omega
theorem mul_sm {x y : Int} (h1 : sm 400000 x) (h2 : sm 400000 y) : fMul (.int x) (.int y) = some (.int (x * y)) := by
  have a := sm_bits h1
  have b := sm_bits h2
  simp only [fMul, iMul, intF]
  rw [if_pos (by omega)]
theorem pow10 (k : Nat) (h : k ≤ 20) : (k : Nat) < 2 ^ 1000 := Nat.lt_of_le_of_lt (Nat.le_trans h (by decide : 20 ≤ 2 ^ 5)) (Nat.pow_lt_pow_right (by decide) (by decide))
theorem sm_nat {k : Nat} (h : k ≤ 20) : sm 1000 (k : Int) := by unfold sm; rw [Int.natAbs_natCast]; exact pow10 k h
theorem fl_sm {n : Int} (h : sm 1000 n) : ∀ k, k ≤ 20 → sm (1001 * k + 1) (fl n k)
  | 0, _ => by unfold sm fl; decide
  | k + 1, hk => by
    have ih := fl_sm h k (by omega)
    have d : sm 1001 (n - k) := sm_sub h (sm_nat (by omega))
    have := sm_mul ih d
    rw [fl]
    exact sm_mono this (by omega)
theorem ch_sm {n : Int} (h : sm 1000 n) {k : Nat} (hk : k ≤ 20) : sm 20030 (ch n k) := by
  have f := fl_sm h k hk
  have e := ch_fl n k
  have p := fc_pos k
  refine sm_mono (a := 1001 * k + 1) ?_ (by omega)
  unfold sm at *
  refine Nat.lt_of_le_of_lt ?_ f
  rw [← e, Int.natAbs_mul]
  exact Nat.le_mul_of_pos_left _ (by omega)
theorem rv_body {d : D} {n tot c a : Int} {k : Nat} {t1 c1 c2 : Int} {st : List Ob} (h1 : fMul (.int a) (.int c) = some (.int t1)) (h2 : fMul (.int c) (.int (n - k)) = some (.int c1)) (h3 : iDiv (.int c1) (.int ((k : Int) + 1)) = some (.int c2)) :
    (mSeq (mSet 2 (mBin fAdd (mVar 2) (mBin fMul (mVar 5) (mVar 3)))) (mSet 3 (mBin iDiv (mBin fMul (mVar 3) (mBin iSub (mVar 1) (mVar 4))) (mBin fAdd (mVar 4) (mC (.int 1)))))) ⟨[.imm d, .imm (.int n), .imm (.int tot), .imm (.int c), .imm (.int k), .imm (.int a)], st⟩ = .ok .nx ⟨[.imm d, .imm (.int n), .imm (.int (tot + t1)), .imm (.int c2), .imm (.int k), .imm (.int a)], st⟩ := by
  simp [mSeq, mSet, mBin, mVar, mC, bnd, DL.ret, lift, h1, h2, h3, iSub, intF, fAdd, S.put]
theorem div_ch {n : Int} {k : Nat} (hk : k ≤ 20) : iDiv (.int (ch n k * (n - k))) (.int ((k : Int) + 1)) = some (.int (ch n (k + 1))) := by
  have b : bits ((k : Int) + 1) < 9000 := by
    have : sm 10 ((k : Int) + 1) := by unfold sm; omega
    have := sm_bits this
    omega
  simp only [iDiv, intF]
  rw [if_pos ⟨by omega, b⟩, ch_next]
theorem rv_loop {A : Nat} {d : D} {n : Int} {st : List Ob} (hn : sm 1000 n) (hA : A ≤ 300000) : ∀ (r : List Int) (k : Nat) (tot : Int) (z4 z5 : Slot), k + r.length ≤ 20 → (∀ a ∈ r, sm A a) → ∃ z4' z5', fo (gTp 2 (gsCons (gNm 4) (gsCons (gNm 5) gsNil))) (mSeq (mSet 2 (mBin fAdd (mVar 2) (mBin fMul (mVar 5) (mVar 3)))) (mSet 3 (mBin iDiv (mBin fMul (mVar 3) (mBin iSub (mVar 1) (mVar 4))) (mBin fAdd (mVar 4) (mC (.int 1)))))) (((r.map D.int).zipIdx k).map fun p => .tup [.int (p.2 : Nat), p.1]) ⟨[.imm d, .imm (.int n), .imm (.int tot), .imm (.int (ch n k)), z4, z5], st⟩ = .ok .nx ⟨[.imm d, .imm (.int n), .imm (.int (tot + rvA r n k)), .imm (.int (ch n (k + r.length))), z4', z5'], st⟩
  | [], k, tot, z4, z5, _, _ => ⟨z4, z5, by simp [fo, DL.ret, rvA]⟩
  | a :: r, k, tot, z4, z5, hk, ha => by
    have hk' : k + 1 + r.length ≤ 20 := by simp at hk; omega
    have c := ch_sm hn (k := k) (by omega)
    have m1 := mul_sm (sm_mono (ha a List.mem_cons_self) (by omega)) (sm_mono c (by omega))
    have m2 := mul_sm (sm_mono c (by omega)) (sm_mono (sm_sub hn (sm_nat (k := k) (by omega))) (by omega))
    have b := rv_body (d := d) (tot := tot) (st := st) m1 m2 (div_ch (by omega))
    obtain ⟨z4', z5', e⟩ := rv_loop (d := d) (st := st) hn hA r (k + 1) (tot + a * ch n k) (.imm (.int k)) (.imm (.int a)) hk' fun x hx => ha x (List.mem_cons_of_mem _ hx)
    refine ⟨z4', z5', ?_⟩
    rw [List.map_cons, List.zipIdx_cons, List.map_cons, fo_step (l := [(4, .int k), (5, .int a)]) rfl b, e]
    have q : k + 1 + r.length = k + (a :: r).length := by simp; omega
    rw [q, rvA, Int.add_assoc]
theorem rv_gen {L : MS} {d n : D} {tot c : Int} {z4 z5 : Slot} {st : List Ob} (h : L ⟨[.imm d, .imm n, .imm (.int 0), .imm (.int 1), .emp, .emp], st⟩ = .ok .nx ⟨[.imm d, .imm n, .imm (.int tot), .imm (.int c), z4, z5], st⟩) :
    fnM 6 (mSeq (mSet 2 (mC (.int 0))) (mSeq (mSet 3 (mC (.int 1))) (mSeq L (mRet (mVar 2))))) [d, n] st = .ok (.int tot) st := by
  have a1 : mSet 2 (mC (.int 0)) ⟨[.imm d, .imm n, .emp, .emp, .emp, .emp], st⟩ = .ok .nx ⟨[.imm d, .imm n, .imm (.int 0), .emp, .emp, .emp], st⟩ := by simp [mSet, mC, bnd, DL.ret, S.put]
  have a2 : mSet 3 (mC (.int 1)) ⟨[.imm d, .imm n, .imm (.int 0), .emp, .emp, .emp], st⟩ = .ok .nx ⟨[.imm d, .imm n, .imm (.int 0), .imm (.int 1), .emp, .emp], st⟩ := by simp [mSet, mC, bnd, DL.ret, S.put]
  show endR (mSeq _ _ ⟨[.imm d, .imm n, .emp, .emp, .emp, .emp], st⟩) = _
  rw [seq_nx a1, seq_nx a2, seq_nx h]
  simp [mRet, mVar, bnd, DL.ret, endR]
theorem rv_eq {A : Nat} {d : D} {r : List Int} {n : Int} {st : List Ob} (hi : itD d = some (r.map .int)) (hn : sm 1000 n) (hA : A ≤ 300000) (hl : r.length ≤ 20) (ha : ∀ a ∈ r, sm A a) : f_row_value [d, .int n] st = .ok (.int (rv r n)) st := by
  obtain ⟨z4, z5, e⟩ := rv_loop (d := d) (st := st) hn hA r 0 0 .emp .emp (by omega) ha
  rw [ch_zero] at e
  have e2 := for_of (it := mEnum (mVar 0)) (s := ⟨[.imm d, .imm (.int n), .imm (.int 0), .imm (.int 1), .emp, .emp], st⟩) (s1 := ⟨[.imm d, .imm (.int n), .imm (.int 0), .imm (.int 1), .emp, .emp], st⟩) (ds := enumD (r.map .int)) (by simp [mEnum, mVar, bnd, hi]) e
  have := rv_gen e2
  rw [Int.zero_add] at this
  exact this
theorem tr_test {d : D} {many : Int} {st : List Ob} : (mBl (mBin iGt (mVar 1) (mC (.int 0)))) ⟨[.imm d, .imm (.int many)], st⟩ = .ok (decide (0 < many)) ⟨[.imm d, .imm (.int many)], st⟩ := by
  simp [mBl, mBin, iGt, intF, mVar, mC, bnd, DL.ret, lift, optB, isBl]
theorem tr_item {d : D} {many a : Int} {st : List Ob} (h : ixD d (.int (many - 1)) = some (.int a)) : (mBl (mBin fEq (mIxN 0 (mBin iSub (mVar 1) (mC (.int 1)))) (mC (.int 0)))) ⟨[.imm d, .imm (.int many)], st⟩ = .ok (decide (a = 0)) ⟨[.imm d, .imm (.int many)], st⟩ := by
  simp [mBl, mBin, mIxN, mIxV, cur, iSub, intF, mVar, mC, bnd, DL.ret, lift, h, eq_int, optB, isBl]
theorem tr_step {d : D} {many : Int} {st : List Ob} : mSet 1 (mBin iSub (mVar 1) (mC (.int 1))) ⟨[.imm d, .imm (.int many)], st⟩ = .ok .nx ⟨[.imm d, .imm (.int (many - 1))], st⟩ := by
  simp [mSet, mBin, iSub, intF, mVar, mC, bnd, DL.ret, lift, S.put]
theorem and_tf {t1 t2 : MT} {s : S} {b : Bool} (h1 : t1 s = .ok true s) (h2 : t2 s = .ok b s) : mAndT t1 t2 s = .ok b s := by
  simp [mAndT, bnd, h1, h2, DL.ret]
theorem and_ff {t1 t2 : MT} {s : S} (h1 : t1 s = .ok false s) : mAndT t1 t2 s = .ok false s := by
  simp [mAndT, bnd, h1, DL.ret]
theorem tr_loop {d : D} {st : List Ob} : ∀ (n : Nat) (p q : List Int), p.length = n → (∀ k a, (p ++ q)[k]? = some a → ixD d (.int (k : Nat)) = some (.int a)) →
    mWhile (mAndT (mBl (mBin iGt (mVar 1) (mC (.int 0)))) (mBl (mBin fEq (mIxN 0 (mBin iSub (mVar 1) (mC (.int 1)))) (mC (.int 0))))) (mSet 1 (mBin iSub (mVar 1) (mC (.int 1)))) ⟨[.imm d, .imm (.int p.length)], st⟩ = .ok .nx ⟨[.imm d, .imm (.int (trm p).length)], st⟩
  | n, p, q, hn, hx => by
    rcases trm_last p with h | ⟨s, h⟩
    · -- ends
      rw [h]
      cases hp : p with
      | nil => exact wh_end (and_ff (by rw [tr_test]; rfl))
      | cons x t =>
        have hl : 0 < p.length := by rw [hp]; simp
        have hne : p ≠ [] := by rw [hp]; simp
        have ed := List.dropLast_concat_getLast hne
        obtain ⟨a, ea⟩ : ∃ a, a = p.getLast hne := ⟨_, rfl⟩
        rw [← ea] at ed
        have ha : p[p.length - 1]? = some a := by
          rw [ea, List.getLast_eq_getElem]
          exact List.getElem?_eq_getElem (by omega)
        have nz : ¬ a = 0 := fun z => by
          have e : p = p.take (p.length - 1) ++ [a] := by rw [← List.dropLast_eq_take]; exact ed.symm
          rw [z] at e
          have t1 := trm_zeros (p.take (p.length - 1)) 1
          have e3 : p.take (p.length - 1) ++ List.replicate 1 0 = p := by rw [e]; simp
          rw [e3, h] at t1
          have := trm_len (p.take (p.length - 1))
          rw [← t1] at this
          simp at this
          omega
        rw [← hp]
        have ix := hx (p.length - 1) a (by rw [List.getElem?_append_left (by omega)]; exact ha)
        have ec : ((p.length - 1 : Nat) : Int) = (p.length : Int) - 1 := by omega
        rw [ec] at ix
        refine wh_end (and_tf (by rw [tr_test, decide_eq_true (by omega)]) ?_)
        rw [tr_item ix, decide_eq_false nz]
    · -- goes on
      cases n with
      | zero => rw [h] at hn; simp at hn
      | succ n =>
        have hs : s.length = n := by rw [h] at hn; simpa using hn
        have ih := tr_loop (d := d) (st := st) n s ([0] ++ q) hs (fun k a hk => hx k a (by rw [h, List.append_assoc]; exact hk))
        have ix := hx s.length 0 (by rw [h, List.append_assoc, List.getElem?_append_right (by omega)]; simp)
        have e1 : trm p = trm s := by
          have := trm_zeros s 1
          rw [show s ++ List.replicate 1 0 = p by rw [h]; rfl] at this
          exact this
        have e2 : (p.length : Int) = s.length + 1 := by rw [h]; simp
        rw [e1, e2]
        have e3 : (s.length : Int) + 1 - 1 = s.length := by omega
        have ix' : ixD d (.int ((s.length : Int) + 1 - 1)) = some (.int 0) := by rw [e3]; exact ix
        rw [wh_step (s1 := ⟨[.imm d, .imm (.int ((s.length : Int) + 1))], st⟩) (and_tf (by rw [tr_test, decide_eq_true (by omega)]) (by rw [tr_item ix']; rfl)) tr_step, e3]
        exact ih
theorem tr_gen {L : MS} {d l : D} {k : Int} {z y : D} {st : List Ob} (hl : fLen d = some l) (h : L ⟨[.imm d, .imm l], st⟩ = .ok .nx ⟨[.imm d, .imm (.int k)], st⟩) (hc : cutD d none (some k) = some z) (ht : fTuple z = some y) :
    fnM 2 (mSeq (mSet 1 (mUn fLen (mLook 0))) (mSeq L (mRet (mUn fTuple (mSlN 0 mNoP (mPart (mVar 1))))))) [d] st = .ok y st := by
  have a1 : mSet 1 (mUn fLen (mLook 0)) ⟨[.imm d, .emp], st⟩ = .ok .nx ⟨[.imm d, .imm l], st⟩ := by
    simp [mSet, mUn, mLook, cur, bnd, DL.ret, hl, lift, S.put]
  show endR (mSeq _ _ ⟨[.imm d, .emp], st⟩) = _
  rw [seq_nx a1, seq_nx h]
  simp [mRet, mUn, mSlN, mNoP, mPart, cur, mVar, bnd, DL.ret, lift, hc, ht, endR]
theorem take_trm (r : List Int) : r.take (trm r).length = trm r := by
  obtain ⟨m, e⟩ := trm_split r
  have : r.take (trm r).length = (trm r ++ List.replicate m 0).take (trm r).length := by rw [← e]
  rw [this, List.take_left]
theorem trimT {r : List Int} {st : List Ob} : f_trimmed [.tup (r.map .int)] st = .ok (.tup ((trm r).map .int)) st := by
  have hx : ∀ k a, (r ++ [])[k]? = some a → ixD (.tup (r.map .int)) (.int (k : Nat)) = some (.int a) := fun k a h => by
    rw [List.append_nil] at h
    exact SP.atI_nat (by rw [List.getElem?_map, h]; rfl)
  have e := tr_loop (d := .tup (r.map .int)) (st := st) r.length r [] rfl hx
  have tl := trm_len r
  refine tr_gen (z := .tup ((trm r).map .int)) (by simp [fLen, itD]) e ?_ (by simp [fTuple, itD])
  have s1 : HT.sIx (r.map D.int).length 0 none = 0 := by simp [HT.sIx]
  have s2 : HT.sIx (r.map D.int).length (r.map D.int).length (some ((trm r).length : Int)) = (trm r).length := by
    have c : ¬ ((trm r).length : Int) < 0 := by omega
    simp only [HT.sIx, c, if_false]
    simp
    omega
  simp only [cutD, cutL, s1, s2]
  rw [List.drop_zero, Nat.sub_zero, ← List.map_take, take_trm]
theorem trimL {r : List Int} {st : List Ob} : f_trimmed [.lst (r.map .int)] st = .ok (.tup ((trm r).map .int)) st := by
  have hx : ∀ k a, (r ++ [])[k]? = some a → ixD (.lst (r.map .int)) (.int (k : Nat)) = some (.int a) := fun k a h => by
    rw [List.append_nil] at h
    exact SP.atI_nat (by rw [List.getElem?_map, h]; rfl)
  have e := tr_loop (d := .lst (r.map .int)) (st := st) r.length r [] rfl hx
  have tl := trm_len r
  refine tr_gen (z := .lst ((trm r).map .int)) (by simp [fLen, itD]) e ?_ (by simp [fTuple, itD])
  have s1 : HT.sIx (r.map D.int).length 0 none = 0 := by simp [HT.sIx]
  have s2 : HT.sIx (r.map D.int).length (r.map D.int).length (some ((trm r).length : Int)) = (trm r).length := by
    have c : ¬ ((trm r).length : Int) < 0 := by omega
    simp only [HT.sIx, c, if_false]
    simp
    omega
  simp only [cutD, cutL, s1, s2]
  rw [List.drop_zero, Nat.sub_zero, ← List.map_take, take_trm]
theorem cut_is : f__law_cut = f_trimmed := rfl
end SZ
namespace SZ
open PySem PySem.Spec L2 DL LC SP
theorem cut_from {r : List Int} {k : Nat} (h : k ≤ r.length) : cutD (.tup (r.map .int)) (some (k : Int)) none = some (.tup ((r.drop k).map .int)) := by
  have s1 : HT.sIx (r.map D.int).length 0 (some (k : Int)) = k := by
    have c : ¬ (k : Int) < 0 := by omega
    simp only [HT.sIx, c, if_false]
    simp
    omega
  have s2 : HT.sIx (r.map D.int).length (r.map D.int).length none = r.length := by simp [HT.sIx]
  simp only [cutD, cutL, s1, s2]
  rw [← List.map_drop, List.take_of_length_le (by simp)]
theorem mv_el {fr : Fn} {d b k y z : D} {st : List Ob} (hc : ∀ l, k = .int l → cutD d (some l) none = some y) (hk : ∃ l, k = .int l) (h : fr [y, b] st = .ok z st) : mCall fr (mCons (mSlN 0 (mPart (mVar 2)) mNoP) (mCons (mVar 1) mNil)) (S.put ⟨[.imm d, .imm b, .emp], st⟩ 2 (.imm k)) = .ok z (S.put ⟨[.imm d, .imm b, .emp], st⟩ 2 (.imm k)) := by
  obtain ⟨l, rfl⟩ := hk
  have hc := hc l rfl
  simp [mCall, mCons, mNil, mSlN, mPart, mNoP, cur, mVar, bnd, DL.ret, lift, hc, h, outR, S.put]
theorem rm_gen {ft : Fn} {C : MA} {d b y : D} {zs : List D} {st : List Ob} (h1 : C ⟨[.imm d, .imm b, .emp], st⟩ = .ok zs ⟨[.imm d, .imm b, .emp], st⟩) (h2 : ft [.lst zs] st = .ok y st) : fnM 3 (mRet (mCall ft (mCons (mFz C) mNil))) [d, b] st = .ok y st := by
  show endR (mRet _ ⟨[.imm d, .imm b, .emp], st⟩) = _
  simp only [mRet, mCall, mCons, mFz, mNil, bnd, h1, DL.ret, h2, outR, endR]
def kInt : D → Int
  | .int k => k
  | _ => 0
theorem ints_map (n : Nat) (f : Int → D) : (intsD 0 n).map (fun d => f (kInt d)) = (List.range n).map fun k => f (k : Nat) := by
  rw [rg_eq]; simp [rgI, kInt]
theorem ints_mem {n : Nat} {d : D} (h : d ∈ intsD 0 n) : ∃ k : Nat, k < n ∧ d = .int k := by
  rw [rg_eq] at h
  obtain ⟨q, hq, rfl⟩ := List.mem_map.mp h
  obtain ⟨q0, q1⟩ := rgI_mem.mp hq
  exact ⟨q.toNat, by omega, by rw [Int.toNat_of_nonneg q0]⟩
theorem rng_arg {rg : List D → Option (List D)} {M : ME} {x : D} {R : List D} {s s' : S} (h : M s = .ok x s') (r : rg [x] = some R) : mRng rg (mCons M mNil) s = .ok R s' := by
  simp [mRng, mCons, mNil, bnd, DL.ret, h, r]
theorem rng_lenI {d : D} {n : Nat} {b c : Slot} {st : List Ob} (hl : fLen d = some (.int n)) (hn : n < 1000) : mRng rng1 (mCons (mUn fLen (mLook 0)) mNil) ⟨[.imm d, b, c], st⟩ = .ok (intsD 0 n) ⟨[.imm d, b, c], st⟩ := by
  exact rng_arg (x := .int n) (by simp [mUn, mLook, cur, bnd, DL.ret, hl, lift]) (rng_nat hn)
theorem rm_eq {A : Nat} {r : List Int} {b : Int} {st : List Ob} (hb : sm 1000 b) (hA : A ≤ 300000) (hl : r.length ≤ 20) (ha : ∀ a ∈ r, sm A a) : f_row_moved [.tup (r.map .int), .int b] st = .ok (.tup ((trm (mvR r b)).map .int)) st := by
  have e := lc_map (i := 2) (f := fun d => .int (rv (r.drop (kInt d).toNat) b)) (it := mRng rng1 (mCons (mUn fLen (mLook 0)) mNil)) (m := mCall f_row_value (mCons (mSlN 0 (mPart (mVar 2)) mNoP) (mCons (mVar 1) mNil))) (s0 := ⟨[.imm (.tup (r.map .int)), .imm (.int b), .emp], st⟩) (s := ⟨[.imm (.tup (r.map .int)), .imm (.int b), .emp], st⟩) (ds := intsD 0 r.length) (rng_lenI (by simp [fLen, itD]) (by omega)) rfl rfl (fun z hz => by
    obtain ⟨k, hk, rfl⟩ := ints_mem hz
    refine mv_el (y := .tup ((r.drop k).map .int)) (fun l hl2 => by cases hl2; exact cut_from (by omega)) ⟨_, rfl⟩ ?_
    exact rv_eq (A := A) (r := r.drop k) rfl hb hA (by simp; omega) (fun a h => ha a (List.mem_of_mem_drop h))) (by unfold few; rw [ints_len]; omega)
  have q : (intsD 0 r.length).map (fun d => D.int (rv (r.drop (kInt d).toNat) b)) = (mvR r b).map .int := by
    rw [ints_map r.length (fun k => .int (rv (r.drop k.toNat) b)), mvR_get, List.map_map]
    rfl
  rw [q] at e
  exact rm_gen e trimL
theorem trm_mem {r : List Int} {x : Int} (h : x ∈ trm r) : x ∈ r := by rw [← take_trm r] at h; exact List.mem_of_mem_take h
theorem trm_trm (r : List Int) : trm (trm r) = trm r := by
  obtain ⟨m, e⟩ := trm_split r
  have := trm_zeros (trm r) m
  rw [← e] at this
  exact this.symm
end SZ
namespace SZ
open PySem PySem.Spec L2 DL LC SP
abbrev szO (a : D) : Ob := .ins "Size" [("row", a)]
theorem wl_eq {d : D} {r : List Int} {st : List Ob} (hd : d = .lst (r.map .int) ∨ d = .tup (r.map .int) ∨ (d = .kt [] ∧ r = [])) (hl : r.length ≤ 1000) : f_whole_list [d] st = .ok (.bl true) st := by
  have hi : itD d = some (r.map .int) := by rcases hd with rfl | rfl | ⟨rfl, rfl⟩ <;> rfl
  have ty : fIsiA ["list", "tuple"] d = some (.bl true) := by rcases hd with rfl | rfl | ⟨rfl, rfl⟩ <;> simp [fIsiA, tyD, subT]
  have e := lc_map (i := 1) (f := fun _ => D.bl true) (it := mIt (mVar 0)) (m := mCall f_is_whole (mCons (mVar 1) mNil)) (s0 := ⟨[.imm d, .emp], st⟩) (s := ⟨[.imm d, .emp], st⟩) (ds := r.map .int) (by simp [mIt, mVar, bnd, hi]) rfl rfl (fun z hz => by
    obtain ⟨x, _, rfl⟩ := List.mem_map.mp hz
    have := isw_int x st
    simp [mCall, mCons, mNil, mVar, bnd, DL.ret, this, outR, S.put]) (by unfold few; simp; omega)
  have a := un_fz e (all_trueD _)
  show endR (mRet _ ⟨[.imm d, .emp], st⟩) = _
  have b : mUn (fIsiA ["list", "tuple"]) (mVar 0) ⟨[.imm d, .emp], st⟩ = .ok (.bl true) ⟨[.imm d, .emp], st⟩ := by simp [mUn, mVar, bnd, ty, lift, DL.ret]
  simp only [m_whole_list, mRet, mAnd, bnd, b, optB, tru, DL.ret, if_true, a, endR]
theorem si_gen {fw ft : Fn} {rz : MS} {n : Nat} {d y : D} {fs : List (Str × D)} {st : List Ob} (h1 : fw [d] st = .ok (.bl true) st) (h2 : ft [d] st = .ok y st) (hn : st[n]? = some (.ins "Size" fs)) (hf : fs.length < 1000) :
    fnM 2 (mSeq (mIfS (mNotT (mTru (mCall fw (mCons (mVar 1) mNil)))) rz mPass) (mSetF "Size" "row" (mVar 0) (mCall ft (mCons (mVar 1) mNil)))) [.loc n, d] st = .ok .non (st.set n (.ins "Size" (putFD "row" y fs))) := by
  have a1 : mIfS (mNotT (mTru (mCall fw (mCons (mVar 1) mNil)))) rz mPass ⟨[.imm (.loc n), .imm d], st⟩ = .ok .nx ⟨[.imm (.loc n), .imm d], st⟩ := by
    simp [mIfS, mNotT, mTru, mCall, mCons, mNil, mVar, bnd, DL.ret, h1, outR, optB, tru, mPass]
  show endR (mSeq _ _ ⟨[.imm (.loc n), .imm d], st⟩) = _
  rw [seq_nx a1]
  simp [mSetF, mCall, mCons, mNil, mVar, bnd, DL.ret, h2, outR, insAt, hn, hf, endR]
theorem new_gen {fi : Fn} {d y : D} {st : List Ob} (h : ∀ (n : Nat) (fs : List (Str × D)) (st : List Ob), st[n]? = some (.ins "Size" fs) → fs.length < 1000 → fi [.loc n, d] st = .ok .non (st.set n (.ins "Size" (putFD "row" y fs)))) : fi [.loc st.length, d] (st ++ [.ins "Size" []]) = .ok .non (st ++ [szO y]) := by
  have e := h st.length [] (st ++ [Ob.ins "Size" []]) (by simp) (by simp)
  rw [e]
  simp [putFD]
end SZ
namespace SZ
open PySem PySem.Spec L2 DL LC SP
theorem fldS {i j : Nat} {a : D} {sl : List Slot} {st : List Ob} (hi : st[i]? = some (szO a)) (hj : sl[j]? = some (.imm (.loc i))) : mFld "Size" "row" (mVar j) ⟨sl, st⟩ = .ok a ⟨sl, st⟩ := by
  simp [mFld, mVar, hj, bnd, insAt, hi, lift, DL.ret]
/-- the row of Size.through -/
def thr (l : List Int) (o : Int) : List Int := trm (mvR (trm (nd l)) (-o))
end SZ
namespace SZ
open PySem PySem.Spec L2 DL LC SP
theorem eqT (a b : List Int) : fEq (.tup (a.map .int)) (.tup (b.map .int)) = some (.bl (decide (a = b))) := by
  simp [fEq, dEq, deq, deq_ints]
theorem is_gen2 {L : MA} {i : Nat} {x : D} {b1 : List D} {st : List Ob} (hi : st[i]? = some (szO x)) (hx : fIsi "tuple" x = some (.bl true)) (he : fEq x x = some (.bl true)) (h1 : L ⟨[.imm (.loc i), .imm x, .imm x, .emp], st⟩ = .ok b1 ⟨[.imm (.loc i), .imm x, .imm x, .emp], st⟩) (e1 : fAll (.lst b1) = some (.bl true)) :
    fnM 4 (mSeq (mSet 2 (mFld "Size" "row" (mVar 0))) (mRet (mAnd (mUn (fIsi "tuple") (mLook 2)) (mAnd (mBin fEq (mVar 2) (mVar 1)) (mUn fAll (mFz L)))))) [.loc i, x] st = .ok (.bl true) st := by
  have f0 := fldS (sl := [.imm (.loc i), .imm x, .emp, .emp]) hi (j := 0) rfl
  have s1 : mSet 2 (mFld "Size" "row" (mVar 0)) ⟨[.imm (.loc i), .imm x, .emp, .emp], st⟩ = .ok .nx ⟨[.imm (.loc i), .imm x, .imm x, .emp], st⟩ := by
    simp only [mSet, bnd, f0, S.put]; rfl
  have t1 : mUn (fIsi "tuple") (mLook 2) ⟨[.imm (.loc i), .imm x, .imm x, .emp], st⟩ = .ok (.bl true) ⟨[.imm (.loc i), .imm x, .imm x, .emp], st⟩ := by simp [mUn, mLook, cur, bnd, hx, lift, DL.ret]
  have t2 : mBin fEq (mVar 2) (mVar 1) ⟨[.imm (.loc i), .imm x, .imm x, .emp], st⟩ = .ok (.bl true) ⟨[.imm (.loc i), .imm x, .imm x, .emp], st⟩ := by simp [mBin, mVar, bnd, he, lift, DL.ret]
  have t3 := un_fz h1 e1
  show endR (mSeq _ _ ⟨[.imm (.loc i), .imm x, .emp, .emp], st⟩) = _
  rw [seq_nx s1]
  simp only [mRet, mAnd, bnd, t1, t2, t3, optB, tru, DL.ret, if_true, endR]
theorem sizeis_eq {i : Nat} {r : List Int} {st : List Ob} (hi : st[i]? = some (szO (.tup (r.map .int)))) (hl : r.length ≤ 1000) : f__law_size_is [.loc i, .tup (r.map .int)] st = .ok (.bl true) st := by
  have e := lc_map (i := 3) (f := fun _ => D.bl true) (it := mIt (mVar 2)) (m := mCall f__law_whole (mCons (mVar 3) mNil)) (s0 := ⟨[.imm (.loc i), .imm (.tup (r.map .int)), .imm (.tup (r.map .int)), .emp], st⟩) (s := ⟨[.imm (.loc i), .imm (.tup (r.map .int)), .imm (.tup (r.map .int)), .emp], st⟩) (ds := r.map .int) (by simp [mIt, mVar, bnd, itD]) rfl rfl (fun z hz => by
    obtain ⟨x, _, rfl⟩ := List.mem_map.mp hz
    have := whole_int x st
    simp [mCall, mCons, mNil, mVar, bnd, DL.ret, this, outR, S.put]) (by unfold few; simp; omega)
  exact is_gen2 hi (by simp [fIsi, tyD, subT]) (by rw [eqT]; simp) e (all_trueD _)
theorem sm_lt {k : Int} {b : Nat} (h0 : 0 ≤ k) (h : k < 2 ^ b) : sm b k := by
  unfold sm
  have : ((k.natAbs : Nat) : Int) < ((2 ^ b : Nat) : Int) := by
    have e : ((2 ^ b : Nat) : Int) = (2 : Int) ^ b := by simp
    rw [e]; omega
  omega
theorem sm_side {s k : Int} {b : Nat} (hs : s = 1 ∨ s = -1) (h : sm b k) : sm b (s * k) := by
  rcases hs with rfl | rfl
  · rw [Int.one_mul]; exact h
  · have : (-1 : Int) * k = -k := by omega
    rw [this]; exact sm_neg h
theorem int_sm {B : Nat} {rs st : List Ob} (h : PenT B rs st) (hB : B + 10 < 2 ^ 30) : ∃ k st', f__law_integer [.loc 0] st = .ok (.int k) st' ∧ sm 300 k ∧ PenT (B + 10) rs st' := by
  obtain ⟨w, s1, e1, w0, w1, t1⟩ := drawT h (by omega) (m := 9) (by omega) (by omega)
  obtain ⟨d, s2, e2, d0, d1, t2⟩ := drawT t1 (by omega) (m := 2) (by omega) (by omega)
  have hs : 1 - 2 * d = 1 ∨ 1 - 2 * d = -1 := by omega
  have m0 := mul_ok (i := 2) (j := d) (by omega) (by omega) d0 (by omega)
  have F := i_first e1 e2 m0
  generalize 1 - 2 * d = s at hs F
  by_cases c0 : w = 0
  · refine ⟨0, s2, int_all F (seq_rt (d := .int 0) ?_), sm_lt (by omega) (by decide), t2.mono (by omega)⟩
    rw [i_if, if_pos c0]; rfl
  by_cases c1 : w < 6
  · obtain ⟨k, s3, e3, k0, k1, t3⟩ := drawT t2 (by omega) (m := 9) (by omega) (by omega)
    refine ⟨s * k, s3, int_all F ?_, sm_side hs (sm_mono (sm_lt (b := 10) k0 (by omega)) (by omega)), t3.mono (by omega)⟩
    rw [seq_nx (s' := iS w s s2) (by rw [i_if, if_neg c0]; rfl)]
    refine seq_rt ?_
    rw [i_lt, if_pos c1]
    exact i_ret e3 (mul_side hs k0 (lt_big (e := 10) (by omega) (by omega)))
  by_cases c2 : w = 6
  · obtain ⟨k, s3, e3, k0, k1, t3⟩ := drawT t2 (by omega) (m := 3000) (by omega) (by omega)
    refine ⟨s * k, s3, int_all F ?_, sm_side hs (sm_mono (sm_lt (b := 12) k0 (by omega)) (by omega)), t3.mono (by omega)⟩
    rw [seq_nx (s' := iS w s s2) (by rw [i_if, if_neg c0]; rfl), seq_nx (s' := iS w s s2) (by rw [i_lt, if_neg c1]; rfl)]
    refine seq_rt ?_
    rw [i_if, if_pos c2]
    exact i_ret e3 (mul_side hs k0 (lt_big (e := 12) (by omega) (by omega)))
  have pre : ∀ {z : D} {st' : List Ob} {A4 : MS}, A4 (iS w s s2) = .ok (.rt z) (iS w s st') → (mSeq (mIfS (mBl (mBin fEq (mVar 1) (mC (.int 0)))) (mRet (mC (.int 0))) mPass) (mSeq (mIfS (mBl (mBin iLt (mVar 1) (mC (.int 6)))) (mRet (mBin fMul (mVar 2) (mCall f__law_draw (mCons (mVar 0) (mCons (mC (.int 9)) mNil))))) mPass) (mSeq (mIfS (mBl (mBin fEq (mVar 1) (mC (.int 6)))) (mRet (mBin fMul (mVar 2) (mCall f__law_draw (mCons (mVar 0) (mCons (mC (.int 3000)) mNil))))) mPass) A4))) (iS w s s2) = .ok (.rt z) (iS w s st') := fun {z st' A4} k => by
    rw [seq_nx (s' := iS w s s2) (by rw [i_if, if_neg c0]; rfl), seq_nx (s' := iS w s s2) (by rw [i_lt, if_neg c1]; rfl), seq_nx (s' := iS w s s2) (by rw [i_if, if_neg c2]; rfl)]
    exact k
  have big : (10 : Int) ^ 60 < 2 ^ 200 := by decide
  by_cases c3 : w = 7
  · obtain ⟨k, s3, e3, k0, k1, t3⟩ := drawT t2 (by omega) (m := 3) (by omega) (by omega)
    have low : (3 : Int) ≤ 10 ^ 60 := by decide
    exact ⟨s * (10 ^ 60 - k), s3, int_all F (pre (i_last pw60 (.inl ⟨c3, k, e3, rfl⟩) (mul_side hs (by omega) (lt_big (e := 200) (by omega) (by omega))))), sm_side hs (sm_mono (sm_lt (b := 200) (by omega) (by omega)) (by omega)), t3.mono (by omega)⟩
  · obtain ⟨k, s3, e3, k0, k1, t3⟩ := great_lt (mm := 10 ^ 60) t2 (by omega) (by decide) (by decide)
    exact ⟨s * k, s3, int_all F (pre (i_last pw60 (.inr ⟨c3, e3⟩) (mul_side hs k0 (lt_big (e := 200) (by omega) (by omega))))), sm_side hs (sm_mono (sm_lt (b := 200) k0 (by omega)) (by omega)), t3.mono (by omega)⟩
theorem far_gen {fd fg : Fn} {P Q : ME} {w z mm nn : Int} {st s1 s2 : List Ob} (hP : ∀ s : S, P s = .ok (.int mm) s) (hQ : ∀ s : S, Q s = .ok (.int nn) s) (h1 : fd [.loc 0, .int 5] st = .ok (.int w) s1) (h2 : (w < 3 ∧ fd [.loc 0, .int 14] s1 = .ok (.int z) s2) ∨ (¬ w < 3 ∧ w = 3 ∧ fg [.loc 0, .int mm] s1 = .ok (.int z) s2) ∨ (¬ w < 3 ∧ ¬ w = 3 ∧ ∃ d, fd [.loc 0, .int 3] s1 = .ok (.int d) s2 ∧ z = nn - d)) :
    fnM 2 (mSeq (mSet 1 (mCall fd (mCons (mVar 0) (mCons (mC (.int 5)) mNil)))) (mSeq (mIfS (mBl (mBin iLt (mVar 1) (mC (.int 3)))) (mRet (mCall fd (mCons (mVar 0) (mCons (mC (.int 14)) mNil)))) mPass) (mRet (mIf (mBl (mBin fEq (mVar 1) (mC (.int 3)))) (mCall fg (mCons (mVar 0) (mCons P mNil))) (mBin iSub Q (mCall fd (mCons (mVar 0) (mCons (mC (.int 3)) mNil)))))))) [.loc 0] st = .ok (.int z) s2 := by
  have a1 : mSet 1 (mCall fd (mCons (mVar 0) (mCons (mC (.int 5)) mNil))) ⟨[.imm (.loc 0), .emp], st⟩ = .ok .nx ⟨[.imm (.loc 0), .imm (.int w)], s1⟩ := by simp [mSet, mCall, mCons, mNil, mVar, mC, bnd, DL.ret, h1, outR, S.put]
  show endR (mSeq _ _ ⟨[.imm (.loc 0), .emp], st⟩) = _
  rw [seq_nx a1]
  rcases h2 with ⟨c, h⟩ | ⟨c, c2, h⟩ | ⟨c, c2, d, h, rfl⟩
  · simp [mSeq, mIfS, mBl, mBin, iLt, intF, mVar, mC, bnd, DL.ret, lift, optB, isBl, c, mRet, mCall, mCons, mNil, h, outR, endR]
  · subst c2
    simp [mSeq, mIfS, mBl, mBin, iLt, intF, mVar, mC, bnd, DL.ret, lift, optB, isBl, mPass, mRet, mIf, eq_int, mCall, mCons, mNil, hP, h, outR, endR]
  · simp [mSeq, mIfS, mBl, mBin, iLt, intF, mVar, mC, bnd, DL.ret, lift, optB, isBl, c, mPass, mRet, mIf, eq_int, c2, mCall, mCons, mNil, hQ, h, outR, iSub, endR]
theorem pw50 (s : S) : mBin iPow (mC (.int 10)) (mC (.int 50)) s = .ok (.int (10 ^ 50)) s := by
  simp [mBin, mC, bnd, DL.ret, iPow, intF, lift]
theorem bin_of {f : D → D → Option D} {a b : ME} {x y z : D} {s s1 s2 : S} (h1 : a s = .ok x s1) (h2 : b s1 = .ok y s2) (h3 : f x y = some z) : mBin f a b s = .ok z s2 := by
  simp [mBin, bnd, h1, h2, h3, lift, DL.ret]
theorem pw100 (s : S) : mBin fMul (mBin iPow (mC (.int 10)) (mC (.int 50))) (mBin iPow (mC (.int 10)) (mC (.int 50))) s = .ok (.int (10 ^ 50 * 10 ^ 50)) s := by
  have q : sm 200 ((10 : Int) ^ 50) := sm_lt (by decide) (by decide)
  exact bin_of (pw50 s) (pw50 s) (mul_sm (sm_mono q (by omega)) (sm_mono q (by omega)))
theorem lr_body {fi : Fn} {b k x : D} {st st' : List Ob} (h : fi [.loc 0] st = .ok x st') : mCall fi (mCons (mVar 0) mNil) ⟨[.imm (.loc 0), .imm b, .imm k], st⟩ = .ok x ⟨[.imm (.loc 0), .imm b, .imm k], st'⟩ := by
  simp [mCall, mCons, mNil, mVar, bnd, DL.ret, h, outR]
theorem lr_rng {fd : Fn} {b : D} {c : Slot} {k : Nat} {st s1 : List Ob} (h : fd [.loc 0, b] st = .ok (.int k) s1) (k1 : k < 1000) : mRng rng1 (mCons (mCall fd (mCons (mVar 0) (mCons (mVar 1) mNil))) mNil) ⟨[.imm (.loc 0), .imm b, c], st⟩ = .ok (intsD 0 k) ⟨[.imm (.loc 0), .imm b, c], s1⟩ :=
  rng_arg (x := .int k) (by simp [mCall, mCons, mNil, mVar, bnd, DL.ret, h, outR]) (rng_nat k1)
theorem lr_gen {C : MA} {fd : Fn} {b : D} {zs : List D} {k : Int} {st s1 s2 : List Ob} (h1 : C ⟨[.imm (.loc 0), .imm b, .emp], st⟩ = .ok zs ⟨[.imm (.loc 0), .imm b, .emp], s1⟩) (h2 : fd [.loc 0, .int 4] s1 = .ok (.int k) s2) (g0 : 0 ≤ k) (g1 : k < 4) (hl : zs.length ≤ 100) :
    fnM 3 (mRet (mFz (mBinF lAddL (mFz C) (mFz (mBinF lRepL (mFz (mLst (mCons (mC (.int 0)) mNil))) (mBin iDiv (mCall fd (mCons (mVar 0) (mCons (mC (.int 4)) mNil))) (mC (.int 2)))))))) [.loc 0, b] st = .ok (.lst (zs ++ (List.replicate (k / 2).toNat [D.int 0]).flatten)) s2 := by
  have rp : lRepL (.lst [.int 0]) (.int (k / 2)) = some (List.replicate (k / 2).toNat [D.int 0]).flatten := by
    simp only [lRepL]
    rw [if_pos ⟨by omega, by omega, by unfold few; simp; omega⟩]
  have la : lAddL (.lst zs) (.lst (List.replicate (k / 2).toNat [D.int 0]).flatten) = some (zs ++ (List.replicate (k / 2).toNat [D.int 0]).flatten) := by
    simp only [lAddL]
    rw [if_pos (by unfold few; simp; omega)]
  have dv : iDiv (.int k) (.int 2) = some (.int (k / 2)) := by
    simp only [iDiv, intF]
    rw [if_pos ⟨by decide, by decide⟩]
  show endR (mRet _ ⟨[.imm (.loc 0), .imm b, .emp], st⟩) = _
  generalize (List.replicate (k / 2).toNat [D.int 0]).flatten = W at rp la
  simp [mRet, mFz, mBinF, bnd, h1, DL.ret, mLst, mCons, mNil, mC, few, mBin, mCall, mVar, h2, outR, dv, lift, rp, la, endR]
theorem un_ints {b : Nat} : ∀ {zs : List D}, (∀ z ∈ zs, ∃ k, sm b k ∧ z = .int k) → ∃ l : List Int, zs = l.map .int ∧ ∀ x ∈ l, sm b x
  | [], _ => ⟨[], rfl, fun _ h => by simp at h⟩
  | z :: zs, h => by
    obtain ⟨s, q, rfl⟩ := h z List.mem_cons_self
    obtain ⟨l, rfl, k⟩ := un_ints fun y hy => h y (List.mem_cons_of_mem _ hy)
    exact ⟨s :: l, rfl, fun y hy => (List.mem_cons.mp hy).elim (fun e => e ▸ q) (k y)⟩
end SZ
namespace SZ
open PySem PySem.Spec L2 DL LC SP
/-- a comprehension over a slot that is emptied first -/
theorem lc_wipe {i : Nat} {it : MA} {m : ME} {f : D → D} {s0 s1 s : S} {ds : List D} (hit : it s0 = .ok ds s1) (hx1 : noX s1 = true) (hw : wipeS s1 [i] = s) (he : s.sl[i]? = some .emp) (hx : noX s = true) (h : ∀ d ∈ ds, m (s.put i (.imm d)) = .ok (f d) (s.put i (.imm d))) (hf : few ds.length) : mLc it (gNm i) mYes m [i] s0 = .ok (ds.map f) s := by
  unfold mLc
  rw [bnd_of hit]
  simp only [hx1, if_true, hw]
  rw [lcs_map he hx ds [] h (by simpa using hf)]
  simp
end SZ
namespace SZ
open PySem PySem.Spec L2 DL LC SP
noncomputable section
def w1 : MS := mAsg (gTL 3 (gsCons (gNm 3) (gsCons (gNm 4) (gsCons (gNm 5) gsNil)))) (mTup (mCons (mCall f__law_row (mCons (mVar 1) (mCons (mC (.int 6)) mNil))) (mCons (mCall f__law_integer (mCons (mVar 1) mNil)) (mCons (mCall f__law_draw (mCons (mVar 1) (mCons (mC (.int 6)) mNil))) mNil))))
def w2 : MS := mSet 6 (mCall f__law_cut (mCons (mVar 3) mNil))
def w3 : MS := mSet 7 (mMake "Size" f_Size___init__ (mCons (mCall f__law_pick (mCons (mVar 1) (mCons (mFz (mLst (mCons (mFz (mUnF itD (mLook 3))) (mCons (mUn fTuple (mLook 3)) mNil)))) mNil))) mNil))
def w4 : MS := mIfS (mOrT (mNotT (mTru (mCall f__law_size_is (mCons (mVar 7) (mCons (mVar 6) mNil))))) (mOrT (mNotT (mTru (mCall f__law_whole (mCons (mProp "Size" f_Size_degree (mVar 7)) mNil)))) (mBl (mBin fNe (mProp "Size" f_Size_degree (mVar 7)) (mBin iSub (mUn fLen (mLook 6)) (mC (.int 1))))))) (mRet (mC (.bl false))) mPass
def w5b : MS := mIfS (mOrT (mNotT (mTru (mCall f__law_whole (mCons (mCallO "Size" f_Size___call__ (mVar 7) (mCons (mVar 8) mNil)) mNil)))) (mBl (mBin fNe (mCallO "Size" f_Size___call__ (mVar 7) (mCons (mVar 8) mNil)) (mCall f__law_at (mCons (mVar 3) (mCons (mVar 8) mNil)))))) (mRet (mC (.bl false))) mPass
def w5 : MS := mFor (mLst (mCons (mCall f__law_far (mCons (mVar 1) mNil)) (mCons (mUn iNeg (mCall f__law_far (mCons (mVar 1) mNil))) (mCons (mCall f__law_draw (mCons (mVar 1) (mCons (mC (.int 4)) mNil))) (mCons (mVar 4) mNil))))) (gNm 8) w5b
def w6 : MS := mSet 9 (mCM "Size" f_Size_through (mCons (mVar 4) (mCons (mCall f__law_pick (mCons (mVar 1) (mCons (mFz (mLst (mCons (mFz (mUnF itD (mLook 3))) (mCons (mUn fTuple (mLook 3)) mNil)))) mNil))) mNil)))
def w7 : MS := mSet 10 (mCall f__law_row_of (mCons (mVar 3) mNil))
def w8 : MS := mIfS (mNotT (mTru (mCall f__law_size_is (mCons (mVar 9) (mCons (mCall f__law_row_of (mCons (mFz (mLc (mRng rng1 (mCons (mUn fLen (mLook 3)) mNil)) (gNm 8) mYes (mCall f__law_at (mCons (mVar 10) (mCons (mBin iSub (mVar 8) (mVar 4)) mNil))) [8])) mNil)) mNil))))) (mRet (mC (.bl false))) mPass
def w9 : MS := mIfS (mBl (mBin fNe (mFz (mLc (mRng rng1 (mCons (mUn fLen (mLook 3)) mNil)) (gNm 11) mYes (mCallO "Size" f_Size___call__ (mVar 9) (mCons (mBin fAdd (mVar 4) (mVar 11)) mNil)) [11])) (mVar 3))) (mRet (mC (.bl false))) mPass
def w10 : MS := mIfS (mNotT (mTru (mCall f__law_size_is (mCons (mSM f_Size_falling [] (mCons (mVar 5) (mCons (mVar 4) mNil))) (mCons (mCall f__law_falling_row (mCons (mVar 5) (mCons (mVar 4) mNil))) mNil))))) (mRet (mC (.bl false))) mPass
def w11 : MS := mIfS (mNotT (mTru (mCall f__law_size_is (mCons (mSM f_Size_falling [.int 0] (mCons (mVar 5) mNil)) (mCons (mCall f__law_falling_row (mCons (mVar 5) (mCons (mC (.int 0)) mNil))) mNil))))) (mRet (mC (.bl false))) mPass
def turn : MS := mSeq w1 (mSeq w2 (mSeq w3 (mSeq w4 (mSeq w5 (mSeq w6 (mSeq w7 (mSeq w8 (mSeq w9 (mSeq w10 w11)))))))))
end
end SZ
namespace SZ
open PySem PySem.Spec L2 DL LC SP
noncomputable def first : MS := mIfS (mOrT (mBl (mBin fNeK (mFld "Size" "row" (mMake0 "Size" f_Size___init__ [.kt []])) (mTup mNil))) (mOrT (mBl (mBin fNeK (mProp "Size" f_Size_degree (mMake0 "Size" f_Size___init__ [.kt []])) (mUn iNeg (mC (.int 1))))) (mOrT (mBl (mBin fNe (mCallO "Size" f_Size___call__ (mMake0 "Size" f_Size___init__ [.kt []]) (mCons (mCall f__law_far (mCons (mVar 1) mNil)) mNil)) (mC (.int 0)))) (mBl (mBin fNeK (mFld "Size" "row" (mCM "Size" f_Size_through (mCons (mC (.int 3)) (mCons (mFz (mLst mNil)) mNil)))) (mTup mNil)))))) (mRet (mC (.bl false))) mPass
section
variable {sl : List Slot} {st st' s1 s2 : List Ob}
theorem if_no {t : MT} {A : MS} {s s1 : S} (h : t s = .ok false s1) : mIfS t A mPass s = .ok .nx s1 := by simp [mIfS, bnd, h, mPass, DL.ret]
end
end SZ
namespace SG
def sgn (x : Int) : Int := if 0 < x then 1 else if x < 0 then -1 else 0
abbrev Prt := Int × Option Int × Int
def leO (n : Int) : Option Int → Prop
  | none => True
  | some h => n ≤ h
theorem leO_mono {m n : Int} {e : Option Int} (h : leO n e) (l : m ≤ n) : leO m e := by
  cases e with
  | none => trivial
  | some x => exact Int.le_trans l h
def one (f : Int → Int) (lo : Int) (e : Option Int) (s : Int) : Prop := ∀ n, lo ≤ n → leO n e → sgn (f n) = s
inductive Ch (f : Int → Int) (B : Int → Prop) (e : Option Int) : Int → List Prt → Prop
  | last {lo s : Int} : leO lo e → B lo → one f lo e s → Ch f B e lo [(lo, e, s)]
  | cons {lo h s : Int} {r : List Prt} : lo ≤ h → B lo → B h → one f lo (some h) s → Ch f B e (h + 1) r → Ch f B e lo ((lo, some h, s) :: r)
variable {f : Int → Int} {B : Int → Prop} {e : Option Int}
theorem Ch.le {lo : Int} {ps : List Prt} (c : Ch f B e lo ps) : leO lo e := by
  induction c with
  | last h _ _ => exact h
  | cons h _ _ _ _ ih => exact leO_mono ih (by omega)
theorem Ch.ne {lo : Int} {ps : List Prt} (c : Ch f B e lo ps) : ps ≠ [] := by
  cases c <;> simp
theorem Ch.app {h lo : Int} {p q : List Prt} (c : Ch f B (some h) lo p) (hb : B h) (d : Ch f B e (h + 1) q) : Ch f B e lo (p ++ q) := by
  induction c with
  | last h1 h2 h3 => exact .cons h1 h2 hb h3 d
  | cons h1 h2 h3 h4 _ ih => exact .cons h1 h2 h3 h4 ih
theorem Ch.lastP {h lo : Int} {acc : List Prt} (c : Ch f B (some h) lo acc) : ∃ init q s, acc = init ++ [(q, some h, s)] ∧ one f q (some h) s ∧ q ≤ h ∧ B q ∧ ∀ e' s', leO q e' → one f q e' s' → Ch f B e' lo (init ++ [(q, e', s')]) := by
  induction c with
  | last h1 h2 h3 => exact ⟨[], _, _, rfl, h3, h1, h2, fun e' s' a b => .last a h2 b⟩
  | @cons lo h0 s r h1 h2 h3 h4 _ ih =>
    obtain ⟨init, q, s, rfl, a, b, c, d⟩ := ih
    exact ⟨_ :: init, q, s, rfl, a, b, c, fun e' s' x y => .cons h1 h2 h3 h4 (d e' s' x y)⟩
def jst (acc : List Prt) (x : Prt) : List Prt := match acc.getLast? with
  | some l => if l.2.2 = x.2.2 then acc.dropLast ++ [(l.1, x.2.1, x.2.2)] else acc ++ [x]
  | none => [x]
theorem jst_app (init : List Prt) (l x : Prt) : jst (init ++ [l]) x = if l.2.2 = x.2.2 then init ++ [(l.1, x.2.1, x.2.2)] else init ++ [l] ++ [x] := by simp [jst]
theorem jst_len (acc : List Prt) (x : Prt) : (jst acc x).length ≤ acc.length + 1 := by
  unfold jst
  split
  · split
    · simp
    · simp
  · simp
theorem jn_len : ∀ (ps acc : List Prt), (ps.foldl jst acc).length ≤ acc.length + ps.length
  | [], acc => by simp
  | x :: r, acc => by
    have a := jn_len r (jst acc x)
    have b := jst_len acc x
    simp
    omega
theorem Ch.jst {h lo s : Int} {acc : List Prt} (c : Ch f B (some h) lo acc) (hb : B h) (hl : leO (h + 1) e) (hb1 : B (h + 1)) (ho : one f (h + 1) e s) : Ch f B e lo (jst acc (h + 1, e, s)) := by
  obtain ⟨init, q, s0, rfl, a, b, k, d⟩ := c.lastP
  rw [jst_app]
  by_cases es : s0 = s
  · rw [if_pos es]
    refine d e s (leO_mono hl (by omega)) fun n hn hle => ?_
    by_cases hh : n ≤ h
    · rw [← es]; exact a n hn hh
    · exact ho n (by omega) hle
  · rw [if_neg es]
    exact c.app hb (.last hl hb1 ho)
theorem Ch.jn {h0 lo0 : Int} {ps : List Prt} (c : Ch f B e lo0 ps) : ∀ {h lo : Int} {acc : List Prt}, lo0 = h + 1 → Ch f B (some h) lo acc → B h → Ch f B e lo (ps.foldl SG.jst acc) := by
  induction c with
  | last h1 h2 h3 => intro h lo acc el ca hb; subst el; exact ca.jst hb h1 h2 h3
  | cons h1 h2 h3 h4 _ ih =>
    intro h lo acc el ca hb
    subst el
    exact ih rfl (ca.jst hb h1 h2 h4) h3
theorem Ch.joined {lo : Int} {ps : List Prt} (c : Ch f B e lo ps) : Ch f B e lo (ps.foldl SG.jst []) := by
  cases c with
  | last h1 h2 h3 => exact .last h1 h2 h3
  | cons h1 h2 h3 h4 d => exact d.jn (h0 := 0) rfl (.last h1 h2 h4) h3
theorem sgn_pos {x : Int} (h : 0 < x) : sgn x = 1 := by simp [sgn, h]
theorem sgn_neg {x : Int} (h : x < 0) : sgn x = -1 := by
  unfold sgn
  rw [if_neg (by omega), if_pos h]
theorem sgn_cases (x : Int) : sgn x = 1 ∧ 0 < x ∨ sgn x = 0 ∧ x = 0 ∨ sgn x = -1 ∧ x < 0 := by
  rcases Int.lt_trichotomy x 0 with h | h | h
  · exact .inr (.inr ⟨sgn_neg h, h⟩)
  · exact .inr (.inl ⟨by rw [h]; rfl, h⟩)
  · exact .inl ⟨sgn_pos h, h⟩
/-- t is 1 or -1: t x has a sign, so x has -/
theorem sgn_t {t x : Int} (ht : t = 1 ∨ t = -1) : (t * x < 0 → sgn x = -t) ∧ (0 < t * x → sgn x = t) ∧ (t * x = 0 → sgn x = 0) := by
  rcases ht with rfl | rfl
  · refine ⟨fun h => sgn_neg (by omega), fun h => sgn_pos (by omega), fun h => ?_⟩
    have : x = 0 := by omega
    rw [this]; rfl
  · refine ⟨fun h => ?_, fun h => ?_, fun h => ?_⟩
    · rw [sgn_pos (by omega)]; rfl
    · rw [sgn_neg (by omega)]
    · have : x = 0 := by omega
      rw [this]; rfl
/-- t f rises along the stretch -/
def inc (f : Int → Int) (t lo : Int) (e : Option Int) : Prop := ∀ n, lo ≤ n → leO (n + 1) e → t * f n + 1 ≤ t * f (n + 1)
theorem inc_of {g : Int → Int} {t lo : Int} {e : Option Int} (ht : t = 1 ∨ t = -1) (hd : ∀ n, f (n + 1) - f n = g n) (ho : one g lo e t) : inc f t lo e := fun n hn hl => by
  have s := ho n hn (leO_mono hl (by omega))
  have d := hd n
  rcases sgn_cases (g n) with ⟨a, b⟩ | ⟨a, b⟩ | ⟨a, b⟩
  · rcases ht with rfl | rfl
    · omega
    · omega
  · rcases ht with rfl | rfl <;> omega
  · rcases ht with rfl | rfl <;> omega
theorem inc_le {t lo : Int} {e : Option Int} (h : inc f t lo e) : ∀ (k : Nat) (m : Int), lo ≤ m → leO (m + k) e → t * f m + k ≤ t * f (m + k)
  | 0, m, _, _ => by simp
  | k + 1, m, hm, hl => by
    have q : m + ((k + 1 : Nat) : Int) = (m + k) + 1 := by omega
    rw [q] at hl ⊢
    have ih := inc_le h k m hm (leO_mono hl (by omega))
    have := h (m + k) (by omega) hl
    omega
theorem inc_lt {t lo m n : Int} {e : Option Int} (h : inc f t lo e) (hm : lo ≤ m) (mn : m ≤ n) (hl : leO n e) : t * f m + (n - m) ≤ t * f n := by
  have := inc_le h (n - m).toNat m hm (by rw [show m + ((n - m).toNat : Int) = n by omega]; exact hl)
  rw [show m + ((n - m).toNat : Int) = n by omega] at this
  omega
theorem con_of {g : Int → Int} {lo : Int} {e : Option Int} (hd : ∀ n, f (n + 1) - f n = g n) (ho : one g lo e 0) : ∀ (k : Nat), leO (lo + k) e → f (lo + k) = f lo
  | 0, _ => by simp
  | k + 1, hl => by
    have q : lo + ((k + 1 : Nat) : Int) = (lo + k) + 1 := by omega
    rw [q] at hl ⊢
    have ih := con_of hd ho k (leO_mono hl (by omega))
    have s := ho (lo + k) (by omega) (leO_mono hl (by omega))
    have d := hd (lo + k)
    rcases sgn_cases (g (lo + k)) with ⟨a, b⟩ | ⟨a, b⟩ | ⟨a, b⟩ <;> omega
theorem con_one {g : Int → Int} {lo : Int} {e : Option Int} (hd : ∀ n, f (n + 1) - f n = g n) (ho : one g lo e 0) : one f lo e (sgn (f lo)) := fun n hn hl => by
  have := con_of hd ho (n - lo).toNat (by rw [show lo + ((n - lo).toNat : Int) = n by omega]; exact hl)
  rw [show lo + ((n - lo).toNat : Int) = n by omega] at this
  rw [this]
def keep (p : Prt) : Bool := match p.2.1 with
  | none => true
  | some h => decide (p.1 ≤ h)
/-- the parts of a stretch along which t f rises, cut at the first place where it is not below 0 -/
theorem cut_ch {t lo fst : Int} {e : Option Int} (ht : t = 1 ∨ t = -1) (hi : inc f t lo e) (hle : leO lo e) (hlo : lo ≤ fst) (h1 : ∀ n, lo ≤ n → n < fst → t * f n < 0) (h2 : ∀ n, fst ≤ n → leO n e → 0 ≤ t * f n) (hf : leO fst e) (bl : B lo) (bf : B fst) (bm : B (fst - 1)) (b1 : B (fst + 1)) :
    Ch f B e lo ([(lo, some (fst - 1), -t), (fst, some (fst + (if f fst = 0 then 1 else 0) - 1), 0), (fst + (if f fst = 0 then 1 else 0), e, t)].filter keep) := by
  have s1 : one f lo (some (fst - 1)) (-t) := fun n hn hl => (sgn_t ht).1 (h1 n hn (by have : n ≤ fst - 1 := hl; omega))
  -- the rest from fst on
  have rest : Ch f B e fst ([(fst, some (fst + (if f fst = 0 then 1 else 0) - 1), 0), (fst + (if f fst = 0 then 1 else 0), e, t)].filter keep) := by
    by_cases z : f fst = 0
    · rw [if_pos z]
      have s2 : one f fst (some (fst + 1 - 1)) 0 := fun n hn hl => by
        have hl' : n ≤ fst + 1 - 1 := hl
        have : n = fst := by omega
        rw [this, z]; rfl
      have k2 : keep (fst, some (fst + 1 - 1), 0) = true := decide_eq_true (show fst ≤ fst + 1 - 1 by omega)
      have s3 : one f (fst + 1) e t := fun n hn hl => by
        have := inc_lt hi hlo (show fst ≤ n by omega) hl
        rw [z, Int.mul_zero] at this
        exact (sgn_t ht).2.1 (by omega)
      cases e with
      | none =>
        have k3 : keep (fst + 1, none, t) = true := rfl
        simp only [List.filter, k2, k3]
        have q : fst + 1 - 1 + 1 = fst + 1 := by omega
        refine .cons (by omega) bf (by rw [show fst + 1 - 1 = fst by omega]; exact bf) s2 ?_
        rw [q]
        exact .last trivial b1 s3
      | some h =>
        by_cases c : fst + 1 ≤ h
        · have k3 : keep (fst + 1, some h, t) = true := decide_eq_true c
          simp only [List.filter, k2, k3]
          have q : fst + 1 - 1 + 1 = fst + 1 := by omega
          refine .cons (by omega) bf (by rw [show fst + 1 - 1 = fst by omega]; exact bf) s2 ?_
          rw [q]
          exact .last c b1 s3
        · have k3 : keep (fst + 1, some h, t) = false := decide_eq_false c
          simp only [List.filter, k2, k3]
          have hf' : fst ≤ h := hf
          have q : fst + 1 - 1 = h := by omega
          rw [q] at s2 ⊢
          exact .last hf' bf s2
    · rw [if_neg z, Int.add_zero]
      have k2 : keep (fst, some (fst - 1), 0) = false := decide_eq_false (show ¬ fst ≤ fst - 1 by omega)
      have k3 : keep (fst, e, t) = true := by
        cases e with
        | none => rfl
        | some h => exact decide_eq_true hf
      simp only [List.filter, k2, k3]
      refine .last hf bf fun n hn hl => ?_
      have a := h2 fst (by omega) hf
      have b := inc_lt hi hlo hn hl
      have c : t * f fst ≠ 0 := fun q => by
        rcases Int.mul_eq_zero.mp q with q | q
        · rcases ht with r | r <;> omega
        · exact z q
      exact (sgn_t ht).2.1 (by omega)
  by_cases c : lo ≤ fst - 1
  · have k1 : keep (lo, some (fst - 1), -t) = true := decide_eq_true c
    rw [List.filter_cons_of_pos k1]
    have := rest
    rw [show fst = fst - 1 + 1 by omega] at this
    refine .cons c bl bm s1 ?_
    rw [show fst - 1 + 1 = fst by omega]
    exact rest
  · have k1 : ¬ keep (lo, some (fst - 1), -t) = true := by
      rw [show keep (lo, some (fst - 1), -t) = decide (lo ≤ fst - 1) from rfl]
      simpa using c
    rw [List.filter_cons_of_neg k1]
    have q : lo = fst := by omega
    rw [q]
    exact rest
theorem cut_no {t lo h : Int} (ht : t = 1 ∨ t = -1) (h1 : ∀ n, lo ≤ n → n < h + 1 → t * f n < 0) (hle : lo ≤ h) (bl : B lo) : Ch f B (some h) lo [(lo, some h, -t)] :=
  .last hle bl fun n hn hl => (sgn_t ht).1 (h1 n hn (by have : n ≤ h := hl; omega))
end SG
namespace SG
open PySem PySem.Spec L2 DL LC SP SZ
theorem sm_small20 {N k : Nat} (hN : 5 ≤ N) (h : k ≤ 20) : sm N (k : Int) := by
  unfold sm
  rw [Int.natAbs_natCast]
  exact Nat.lt_of_le_of_lt h (Nat.lt_of_lt_of_le (by decide : 20 < 2 ^ 5) (Nat.pow_le_pow_right (by decide) hN))
theorem fl_smN {N : Nat} {n : Int} (h : sm N n) (hN : 5 ≤ N) : ∀ k, k ≤ 20 → sm ((N + 1) * k + 1) (SZ.fl n k)
  | 0, _ => by unfold sm SZ.fl; simp
  | k + 1, hk => by
    have ih := fl_smN h hN k (by omega)
    have d : sm (N + 1) (n - k) := sm_sub h (sm_small20 hN (by omega))
    have := sm_mul ih d
    rw [SZ.fl]
    exact sm_mono this (by rw [Nat.mul_add]; omega)
theorem ch_smN {N : Nat} {n : Int} (h : sm N n) (hN : 5 ≤ N) {k : Nat} (hk : k ≤ 20) : sm ((N + 1) * k + 1) (ch n k) := by
  have f := fl_smN h hN k hk
  have e := ch_fl n k
  have p := fc_pos k
  unfold sm at *
  refine Nat.lt_of_le_of_lt ?_ f
  rw [← e, Int.natAbs_mul]
  exact Nat.le_mul_of_pos_left _ (by omega)
theorem mulLe {N k L : Nat} (h : k ≤ L) : (N + 1) * k ≤ (N + 1) * L := Nat.mul_le_mul_left _ h
theorem rvA_smN {A N L : Nat} {n : Int} (h : sm N n) (hN : 5 ≤ N) (hL : L ≤ 19) : ∀ (r : List Int) (k : Nat), k + r.length ≤ L + 1 → (∀ a ∈ r, sm A a) → sm (A + ((N + 1) * L + 1) + r.length) (rvA r n k)
  | [], _, _, _ => by unfold sm rvA; exact Nat.pos_of_ne_zero (by simp)
  | a :: r, k, hk, ha => by
    simp only [List.length_cons] at hk
    have kL : k ≤ L := by omega
    have c := sm_mono (ch_smN h hN (k := k) (by omega)) (Nat.add_le_add_right (mulLe (N := N) kL) 1)
    have m := sm_mul (ha a List.mem_cons_self) c
    have ih := rvA_smN (A := A) h hN hL r (k + 1) (by omega) fun x hx => ha x (List.mem_cons_of_mem _ hx)
    have := sm_add (sm_mono m (show A + ((N + 1) * L + 1) ≤ A + ((N + 1) * L + 1) + r.length by omega)) ih
    rw [rvA]
    exact sm_mono this (by simp only [List.length_cons]; omega)
theorem rv_loopN {A N L : Nat} {d : D} {n : Int} {st : List Ob} (hn : sm N n) (hN : 5 ≤ N) (hL : L ≤ 19) (hB : (N + 1) * L + N + 2 ≤ 400000) (hA : A ≤ 400000) : ∀ (r : List Int) (k : Nat) (tot : Int) (z4 z5 : Slot), k + r.length ≤ L + 1 → (∀ a ∈ r, sm A a) → ∃ z4' z5', fo (gTp 2 (gsCons (gNm 4) (gsCons (gNm 5) gsNil))) (mSeq (mSet 2 (mBin fAdd (mVar 2) (mBin fMul (mVar 5) (mVar 3)))) (mSet 3 (mBin iDiv (mBin fMul (mVar 3) (mBin iSub (mVar 1) (mVar 4))) (mBin fAdd (mVar 4) (mC (.int 1)))))) (((r.map D.int).zipIdx k).map fun p => .tup [.int (p.2 : Nat), p.1]) ⟨[.imm d, .imm (.int n), .imm (.int tot), .imm (.int (ch n k)), z4, z5], st⟩ = .ok .nx ⟨[.imm d, .imm (.int n), .imm (.int (tot + rvA r n k)), .imm (.int (ch n (k + r.length))), z4', z5'], st⟩
  | [], k, tot, z4, z5, _, _ => ⟨z4, z5, by simp [fo, DL.ret, rvA]⟩
  | a :: r, k, tot, z4, z5, hk, ha => by
    simp only [List.length_cons] at hk
    have kL : k ≤ L := by omega
    have q0 := mulLe (N := N) kL
    have c := ch_smN hn hN (k := k) (by omega)
    have m1 := mul_sm (sm_mono (ha a List.mem_cons_self) (by omega)) (sm_mono c (by omega))
    have m2 := mul_sm (sm_mono c (by omega)) (sm_mono (sm_sub hn (sm_small20 (k := k) hN (by omega))) (by omega))
    have b := rv_body (d := d) (tot := tot) (st := st) m1 m2 (div_ch (by omega))
    obtain ⟨z4', z5', e⟩ := rv_loopN (d := d) (st := st) hn hN hL hB hA r (k + 1) (tot + a * ch n k) (.imm (.int k)) (.imm (.int a)) (by omega) fun x hx => ha x (List.mem_cons_of_mem _ hx)
    refine ⟨z4', z5', ?_⟩
    rw [List.map_cons, List.zipIdx_cons, List.map_cons, fo_step (l := [(4, .int k), (5, .int a)]) rfl b, e]
    have q : k + 1 + r.length = k + (a :: r).length := by simp; omega
    rw [q, rvA, Int.add_assoc]
theorem rv_eqN {A N L : Nat} {d : D} {r : List Int} {n : Int} {st : List Ob} (hi : itD d = some (r.map .int)) (hn : sm N n) (hN : 5 ≤ N) (hL : L ≤ 19) (hB : (N + 1) * L + N + 2 ≤ 400000) (hA : A ≤ 400000) (hl : r.length ≤ L + 1) (ha : ∀ a ∈ r, sm A a) : f_row_value [d, .int n] st = .ok (.int (rv r n)) st := by
  obtain ⟨z4, z5, e⟩ := rv_loopN (d := d) (st := st) hn hN hL hB hA r 0 0 .emp .emp (by omega) ha
  rw [ch_zero] at e
  have e2 := for_of (it := mEnum (mVar 0)) (s := ⟨[.imm d, .imm (.int n), .imm (.int 0), .imm (.int 1), .emp, .emp], st⟩) (s1 := ⟨[.imm d, .imm (.int n), .imm (.int 0), .imm (.int 1), .emp, .emp], st⟩) (ds := enumD (r.map .int)) (by simp [mEnum, mVar, bnd, hi]) e
  have := rv_gen e2
  rw [Int.zero_add] at this
  exact this
/-- what is known of row_value at a row, and of its product with t, for numbers of N bits -/
def At (fr : Fn) (d : D) (st : List Ob) (f : Int → Int) (t : Int) (N : Nat) : Prop := ∀ n, sm N n → fr [d, .int n] st = .ok (.int (f n)) st ∧ fMul (.int t) (.int (f n)) = some (.int (t * f n))
def bTest : MT := mBl (mBin iLe (mVar 2) (mVar 3))
def bMid : MS := mSet 5 (mBin iDiv (mBin fAdd (mVar 2) (mVar 3)) (mC (.int 2)))
def bSet (fr : Fn) : MS := mIfS (mBl (mBin iLt (mBin fMul (mVar 1) (mCall fr (mCons (mVar 0) (mCons (mVar 5) mNil)))) (mC (.int 0)))) (mSet 2 (mBin fAdd (mVar 5) (mC (.int 1)))) (mSet 3 (mBin iSub (mVar 5) (mC (.int 1))))
abbrev fS (d : D) (t lo : Int) (hi : D) (g z : Slot) (st : List Ob) : S := ⟨[.imm d, .imm (.int t), .imm (.int lo), .imm hi, g, z], st⟩
theorem bTest_eq {d : D} {t lo hi : Int} {g z : Slot} {st : List Ob} : bTest (fS d t lo (.int hi) g z st) = .ok (decide (lo ≤ hi)) (fS d t lo (.int hi) g z st) := by
  simp [bTest, mBl, mBin, iLe, intF, mVar, bnd, DL.ret, lift, optB, isBl]
theorem bits2 : bits 2 < 9000 := by
  have : bits 2 = 1 := by decide
  omega
theorem bMid_eq {d : D} {t lo hi : Int} {g z : Slot} {st : List Ob} : bMid (fS d t lo (.int hi) g z st) = .ok .nx (fS d t lo (.int hi) g (.imm (.int ((lo + hi) / 2))) st) := by
  have b := bits2
  simp [bMid, mSet, mBin, iDiv, intF, fAdd, mVar, mC, bnd, DL.ret, lift, S.put, b]
theorem bSet_eq {fr : Fn} {d : D} {t lo m x y : Int} {hi : D} {g : Slot} {st : List Ob} (h1 : fr [d, .int m] st = .ok (.int x) st) (h2 : fMul (.int t) (.int x) = some (.int y)) :
    bSet fr (fS d t lo hi g (.imm (.int m)) st) = .ok .nx (if y < 0 then fS d t (m + 1) hi g (.imm (.int m)) st else fS d t lo (.int (m - 1)) g (.imm (.int m)) st) := by
  by_cases c : y < 0
  · simp [bSet, mIfS, mBl, mBin, iLt, intF, mVar, mCall, mCons, mNil, mC, bnd, DL.ret, lift, h1, h2, outR, optB, isBl, c, mSet, fAdd, S.put]
  · simp [bSet, mIfS, mBl, mBin, iLt, iSub, intF, mVar, mCall, mCons, mNil, mC, bnd, DL.ret, lift, h1, h2, outR, optB, isBl, c, mSet, S.put]
theorem bis {fr : Fn} {d : D} {t : Int} {st : List Ob} {f : Int → Int} {N : Nat} {g : Slot} {low high : Int} (hA : At fr d st f t N) (hs : ∀ n, low ≤ n → n ≤ high → sm N n) (hm : ∀ m n, low ≤ m → m ≤ n → n ≤ high → t * f m ≤ t * f n) :
    ∀ (k : Nat) (lo hi : Int) (z : Slot), (hi + 1 - lo).toNat = k → low ≤ lo → hi ≤ high → lo ≤ hi + 1 → (∀ n, low ≤ n → n < lo → t * f n < 0) → (∀ n, hi < n → n ≤ high → 0 ≤ t * f n) → ∃ lo' hi' z', mWhile bTest (mSeq bMid (bSet fr)) (fS d t lo (.int hi) g z st) = .ok .nx (fS d t lo' hi' g z' st) ∧ low ≤ lo' ∧ lo' ≤ high + 1 ∧ (∀ n, low ≤ n → n < lo' → t * f n < 0) ∧ (∀ n, lo' ≤ n → n ≤ high → 0 ≤ t * f n) := by
  intro k
  induction k using Nat.strongRecOn with
  | _ k ih =>
    intro lo hi z hk h1 h2 h3 h4 h5
    by_cases c : lo ≤ hi
    · have te := bTest_eq (d := d) (t := t) (lo := lo) (hi := hi) (g := g) (z := z) (st := st)
      rw [decide_eq_true c] at te
      have m1 : lo ≤ (lo + hi) / 2 := by omega
      have m2 : (lo + hi) / 2 ≤ hi := by omega
      obtain ⟨a1, a2⟩ := hA ((lo + hi) / 2) (hs _ (by omega) (by omega))
      have b := bSet_eq (lo := lo) (hi := .int hi) (g := g) a1 a2
      have bd := (seq_nx (b := bSet fr) (bMid_eq (d := d) (t := t) (lo := lo) (hi := hi) (g := g) (z := z) (st := st))).trans b
      by_cases y : t * f ((lo + hi) / 2) < 0
      · rw [if_pos y] at bd
        obtain ⟨lo', hi', z', e, q⟩ := ih (hi + 1 - ((lo + hi) / 2 + 1)).toNat (by omega) ((lo + hi) / 2 + 1) hi (.imm (.int ((lo + hi) / 2))) rfl (by omega) h2 (by omega) (fun n hn hl => by
          have := hm n ((lo + hi) / 2) hn (by omega) (by omega)
          omega) h5
        exact ⟨lo', hi', z', by rw [wh_step te bd]; exact e, q⟩
      · rw [if_neg y] at bd
        obtain ⟨lo', hi', z', e, q⟩ := ih ((lo + hi) / 2 - 1 + 1 - lo).toNat (by omega) lo ((lo + hi) / 2 - 1) (.imm (.int ((lo + hi) / 2))) rfl h1 (by omega) (by omega) h4 (fun n hn hl => by
          have := hm ((lo + hi) / 2) n (by omega) (by omega) hl
          omega)
        exact ⟨lo', hi', z', by rw [wh_step te bd]; exact e, q⟩
    · have te := bTest_eq (d := d) (t := t) (lo := lo) (hi := hi) (g := g) (z := z) (st := st)
      rw [decide_eq_false c] at te
      exact ⟨lo, .int hi, z, wh_end te, h1, by omega, h4, fun n hn hl => h5 n (by omega) hl⟩
def gTest (fr : Fn) : MT := mBl (mBin iLt (mBin fMul (mVar 1) (mCall fr (mCons (mVar 0) (mCons (mBin fAdd (mVar 2) (mVar 4)) mNil)))) (mC (.int 0)))
def gSet : MS := mSet 4 (mBin fMul (mVar 4) (mC (.int 2)))
theorem gTest_eq {fr : Fn} {d : D} {t lo p x y : Int} {hi : D} {z : Slot} {st : List Ob} (h1 : fr [d, .int (lo + p)] st = .ok (.int x) st) (h2 : fMul (.int t) (.int x) = some (.int y)) : gTest fr (fS d t lo hi (.imm (.int p)) z st) = .ok (decide (y < 0)) (fS d t lo hi (.imm (.int p)) z st) := by
  simp [gTest, mBl, mBin, iLt, intF, mVar, mCall, mCons, mNil, mC, fAdd, bnd, DL.ret, lift, h1, h2, outR, optB, isBl]
theorem gSet_eq {d : D} {t lo p : Int} {hi : D} {z : Slot} {st : List Ob} (h : sm 400000 p) : gSet (fS d t lo hi (.imm (.int p)) z st) = .ok .nx (fS d t lo hi (.imm (.int (p * 2))) z st) := by
  have := mul_sm h (sm_mono (sm_small20 (N := 5) (k := 2) (by omega) (by omega)) (by omega))
  have e : fMul (.int p) (.int 2) = some (.int (p * 2)) := this
  simp [gSet, mSet, mBin, mVar, mC, bnd, DL.ret, lift, e, S.put]
theorem gap {fr : Fn} {d : D} {t low G : Int} {st : List Ob} {f : Int → Int} {N : Nat} {hi : D} {z : Slot} (hN : N ≤ 400000) (hA : At fr d st f t N) (hG0 : 0 ≤ G) (hG : -(t * f low) ≤ G) (hi' : inc f t low none) (hs : ∀ p, 1 ≤ p → p ≤ 2 * G + 1 → sm N (low + p) ∧ sm N p) :
    ∀ (k : Nat) (p : Int), (G - p).toNat ≤ k → 1 ≤ p → p ≤ 2 * G + 1 → ∃ p', mWhile (gTest fr) gSet (fS d t low hi (.imm (.int p)) z st) = .ok .nx (fS d t low hi (.imm (.int p')) z st) ∧ 1 ≤ p' ∧ p' ≤ 2 * G + 1 ∧ 0 ≤ t * f (low + p') := by
  intro k
  induction k using Nat.strongRecOn with
  | _ k ih =>
    intro p hk h1 h2
    obtain ⟨s1, s2⟩ := hs p h1 h2
    obtain ⟨a1, a2⟩ := hA (low + p) s1
    have te := gTest_eq (hi := hi) (z := z) a1 a2
    by_cases y : t * f (low + p) < 0
    · rw [decide_eq_true y] at te
      have g := inc_lt hi' (show low ≤ low by omega) (show low ≤ low + p by omega) (e := none) trivial
      have pG : p < G := by omega
      obtain ⟨p', e, q⟩ := ih (G - p * 2).toNat (by omega) (p * 2) (Nat.le_refl _) (by omega) (by omega)
      exact ⟨p', by rw [wh_step te (gSet_eq (sm_mono s2 hN))]; exact e, q⟩
    · rw [decide_eq_false y] at te
      exact ⟨p, wh_end te, h1, h2, by omega⟩
theorem ff_gen {W1 W2 : MS} {d : D} {t lo hi0 lo' : Int} {hi hi2 : D} {st : List Ob} {z4 z5 : Slot} (h1 : mIfS (mBl (mBin fIsN (mVar 3) (mC .non))) (mSeq (mSet 4 (mC (.int 1))) (mSeq W1 (mSet 3 (mBin fAdd (mVar 2) (mVar 4))))) mPass (fS d t lo hi .emp .emp st) = .ok .nx (fS d t lo (.int hi0) z4 .emp st)) (h2 : W2 (fS d t lo (.int hi0) z4 .emp st) = .ok .nx (fS d t lo' hi2 z4 z5 st)) :
    fnM 6 (mSeq (mIfS (mBl (mBin fIsN (mVar 3) (mC .non))) (mSeq (mSet 4 (mC (.int 1))) (mSeq W1 (mSet 3 (mBin fAdd (mVar 2) (mVar 4))))) mPass) (mSeq W2 (mRet (mVar 2)))) [d, .int t, .int lo, hi] st = .ok (.int lo') st := by
  show endR (mSeq _ _ (fS d t lo hi .emp .emp st)) = _
  rw [seq_nx h1, seq_nx h2]
  simp [mRet, mVar, bnd, DL.ret, endR]
theorem ff_if1 {W1 : MS} {d : D} {t lo h : Int} {st : List Ob} : mIfS (mBl (mBin fIsN (mVar 3) (mC .non))) (mSeq (mSet 4 (mC (.int 1))) (mSeq W1 (mSet 3 (mBin fAdd (mVar 2) (mVar 4))))) mPass (fS d t lo (.int h) .emp .emp st) = .ok .nx (fS d t lo (.int h) .emp .emp st) := by
  simp [mIfS, mBl, mBin, fIsN, DL.isNon, mVar, mC, bnd, DL.ret, lift, optB, isBl, mPass]
theorem ff_if2 {W1 : MS} {d : D} {t lo p : Int} {st : List Ob} (h : W1 (fS d t lo .non (.imm (.int 1)) .emp st) = .ok .nx (fS d t lo .non (.imm (.int p)) .emp st)) : mIfS (mBl (mBin fIsN (mVar 3) (mC .non))) (mSeq (mSet 4 (mC (.int 1))) (mSeq W1 (mSet 3 (mBin fAdd (mVar 2) (mVar 4))))) mPass (fS d t lo .non .emp .emp st) = .ok .nx (fS d t lo (.int (lo + p)) (.imm (.int p)) .emp st) := by
  have a1 : mSet 4 (mC (.int 1)) (fS d t lo .non .emp .emp st) = .ok .nx (fS d t lo .non (.imm (.int 1)) .emp st) := by simp [mSet, mC, bnd, DL.ret, S.put]
  have a3 : mSet 3 (mBin fAdd (mVar 2) (mVar 4)) (fS d t lo .non (.imm (.int p)) .emp st) = .ok .nx (fS d t lo (.int (lo + p)) (.imm (.int p)) .emp st) := by simp [mSet, mBin, fAdd, mVar, bnd, DL.ret, lift, S.put]
  have te : mBl (mBin fIsN (mVar 3) (mC .non)) (fS d t lo .non .emp .emp st) = .ok true (fS d t lo .non .emp .emp st) := by simp [mBl, mBin, fIsN, DL.isNon, mVar, mC, bnd, DL.ret, lift, optB, isBl]
  rw [mIfS, bnd_of te, if_pos rfl, seq_nx a1, seq_nx h]
  exact a3
def FirstIs (f : Int → Int) (t low : Int) (high : Option Int) (fst : Int) : Prop := low ≤ fst ∧ (∀ n, low ≤ n → n < fst → t * f n < 0) ∧ (∀ n, fst ≤ n → leO n high → 0 ≤ t * f n) ∧ ∀ h, high = some h → fst ≤ h + 1
theorem sm_iff {N : Nat} {n : Int} : sm N n ↔ -(2 ^ N : Nat) < n ∧ n < (2 ^ N : Nat) := by unfold sm; omega
theorem sm_btw {N : Nat} {a b n : Int} (ha : sm N a) (hb : sm N b) (h1 : a ≤ n) (h2 : n ≤ b) : sm N n := by
  rw [sm_iff] at *
  omega
theorem ff_some {d : D} {t low h : Int} {st : List Ob} {f : Int → Int} {N : Nat} (ht : At f_row_value d st f t N) (hi : inc f t low (some h)) (hl : low ≤ h) (s1 : sm N low) (s2 : sm N h) : ∃ fst, f_first_from [d, .int t, .int low, .int h] st = .ok (.int fst) st ∧ FirstIs f t low (some h) fst ∧ sm (N + 1) fst := by
  obtain ⟨lo', hi', z', e, q1, q2, q3, q4⟩ := bis (g := .emp) (low := low) (high := h) ht (fun n a b => sm_btw s1 s2 a b) (fun m n a b c => by
    have := inc_lt hi a b (e := some h) c
    omega) (h + 1 - low).toNat low h .emp rfl (by omega) (by omega) (by omega) (fun n a b => by omega) (fun n a b => by omega)
  refine ⟨lo', ff_gen ff_if1 e, ⟨q1, q3, fun n a b => q4 n a b, fun h' eh => by cases eh; exact q2⟩, ?_⟩
  rw [sm_iff] at *
  have : (2 ^ (N + 1) : Nat) = 2 * 2 ^ N := by rw [Nat.pow_succ]; omega
  have p := Nat.pow_pos (n := N) (show 0 < 2 by decide)
  omega
theorem ff_none {d : D} {t low : Int} {st : List Ob} {f : Int → Int} {N K : Nat} (htt : t = 1 ∨ t = -1) (hN : N ≤ 400000) (ht : At f_row_value d st f t N) (hi : inc f t low none) (s1 : sm (K + 2) low) (s2 : sm K (f low)) (hK : K + 3 ≤ N) : ∃ fst, f_first_from [d, .int t, .int low, .non] st = .ok (.int fst) st ∧ FirstIs f t low none fst ∧ sm (N + 1) fst := by
  have pK : (2 ^ (K + 3) : Nat) = 8 * 2 ^ K := by rw [show K + 3 = K + 1 + 1 + 1 from rfl, Nat.pow_succ, Nat.pow_succ, Nat.pow_succ]; omega
  have pK2 : (2 ^ (K + 2) : Nat) = 4 * 2 ^ K := by rw [show K + 2 = K + 1 + 1 from rfl, Nat.pow_succ, Nat.pow_succ]; omega
  have p0 := Nat.pow_pos (n := K) (show 0 < 2 by decide)
  have s2' := sm_iff.mp s2
  have s1' := sm_iff.mp s1
  have dom : ∀ p, 0 ≤ p → p ≤ 2 * (((2 ^ K : Nat) : Int) - 1) + 1 → sm N (low + p) ∧ sm N p := fun p a b => by
    constructor
    · refine sm_mono (sm_iff.mpr ?_) hK
      rw [pK]
      omega
    · refine sm_mono (sm_iff.mpr ?_) hK
      rw [pK]
      omega
  obtain ⟨p, e1, r1, r2, r3⟩ := gap (hi := .non) (z := .emp) (low := low) (G := ((2 ^ K : Nat) : Int) - 1) hN ht (by omega) (by rcases htt with rfl | rfl <;> omega) hi (fun p a b => dom p (by omega) b) _ 1 (Nat.le_refl _) (by omega) (by omega)
  have d0 := dom 0 (by omega) (by omega)
  rw [Int.add_zero] at d0
  obtain ⟨lo', hi', z', e, q1, q2, q3, q4⟩ := bis (g := .imm (.int p)) (low := low) (high := low + p) ht (fun n a b => sm_btw d0.1 (dom p (by omega) r2).1 a b) (fun m n a b c => by
    have := inc_lt hi a b (e := none) trivial
    omega) (low + p + 1 - low).toNat low (low + p) .emp rfl (by omega) (by omega) (by omega) (fun n a b => by omega) (fun n a b => by omega)
  refine ⟨lo', ff_gen (ff_if2 e1) e, ⟨q1, q3, fun n a b => ?_, fun h' eh => by cases eh⟩, ?_⟩
  · by_cases c : n ≤ low + p
    · exact q4 n a c
    · have := inc_lt hi (show low ≤ low + p by omega) (show low + p ≤ n by omega) (e := none) trivial
      omega
  · have a := d0.1
    have b := (dom p (by omega) r2).1
    rw [sm_iff] at *
    have : (2 ^ (N + 1) : Nat) = 2 * 2 ^ N := by rw [Nat.pow_succ]; omega
    have p := Nat.pow_pos (n := N) (show 0 < 2 by decide)
    omega
end SG
namespace SG
open PySem PySem.Spec L2 DL LC SP SZ
def pD (p : Prt) : D := .tup [.int p.1, oD p.2.1, .int p.2.2]
theorem sgn_sub (x : Int) : (if 0 < x then (1 : Int) else 0) - (if x < 0 then 1 else 0) = sgn x := by
  unfold sgn
  split <;> split <;> omega
theorem sign_eq {x : Int} {st : List Ob} : f_sign_of [.int x] st = .ok (.int (sgn x)) st := by
  have e := sgn_sub x
  simp only [f_sign_of, fnM, m_sign_of, slots, mRet, mBin, mUn, iSub, iGt, iLt, intF, mVar, mC, bnd, DL.ret, lift, fInt, endR, decide_eq_true_eq, List.length_cons, List.length_nil, List.map_cons, List.map_nil, List.getElem?_cons_zero, List.cons_append, List.nil_append]
  rw [e]
def cutM (fsg frv fff : Fn) : MS := (mSeq (mIfS (mBl (mBin fEq (mVar 3) (mC (.int 0)))) (mRet (mFz (mLst (mCons (mTup (mCons (mVar 1) (mCons (mVar 2) (mCons (mCall fsg (mCons (mCall frv (mCons (mVar 0) (mCons (mVar 1) mNil))) mNil)) mNil)))) mNil)))) mPass)
  (mSeq (mSet 4 (mCall fff (mCons (mVar 0) (mCons (mVar 3) (mCons (mVar 1) (mCons (mVar 2) mNil))))))
  (mSeq (mIfS (mAndT (mBl (mBin fNotN (mVar 2) (mC .non))) (mBl (mBin iGt (mVar 4) (mVar 2)))) (mRet (mFz (mLst (mCons (mTup (mCons (mVar 1) (mCons (mVar 2) (mCons (mUn iNeg (mVar 3)) mNil)))) mNil)))) mPass)
  (mSeq (mSet 5 (mBin fAdd (mVar 4) (mUn fInt (mBin fEq (mCall frv (mCons (mVar 0) (mCons (mVar 4) mNil))) (mC (.int 0))))))
  (mSeq (mOwn 6 (mLst (mCons (mTup (mCons (mVar 1) (mCons (mBin iSub (mVar 4) (mC (.int 1))) (mCons (mUn iNeg (mVar 3)) mNil)))) (mCons (mTup (mCons (mVar 4) (mCons (mBin iSub (mVar 5) (mC (.int 1))) (mCons (mC (.int 0)) mNil)))) (mCons (mTup (mCons (mVar 5) (mCons (mVar 2) (mCons (mVar 3) mNil)))) mNil)))))
  (mRet (mFz (mLc (mIt (mVar 6)) (gNm 7) (mOrT (mBl (mBin fIsN (mIxN 7 (mC (.int 1))) (mC .non))) (mBl (mBin iLe (mIxN 7 (mC (.int 0))) (mIxN 7 (mC (.int 1)))))) (mVar 7) [7]))))))))
theorem cut_zero {fsg frv fff : Fn} {d e : D} {lo x s : Int} {st : List Ob} (h1 : frv [d, .int lo] st = .ok (.int x) st) (h2 : fsg [.int x] st = .ok (.int s) st) : fnM 8 (cutM fsg frv fff) [d, .int lo, e, .int 0] st = .ok (.lst [.tup [.int lo, e, .int s]]) st := by
  simp [cutM, fnM, slots, mSeq, mIfS, mBl, mBin, mVar, mC, bnd, DL.ret, lift, eq_int, optB, isBl, mRet, mFz, mLst, mCons, mNil, mTup, mCall, h1, h2, outR, few, endR]
abbrev cS (d : D) (lo : Int) (e : Option Int) (t : Int) (a b c z : Slot) (st : List Ob) : S := ⟨[.imm d, .imm (.int lo), .imm (oD e), .imm (.int t), a, b, c, z], st⟩
theorem cut_t {d : D} {lo t : Int} {e : Option Int} {a b c z : Slot} {st : List Ob} {A : MS} (h : t ≠ 0) : mIfS (mBl (mBin fEq (mVar 3) (mC (.int 0)))) A mPass (cS d lo e t a b c z st) = .ok .nx (cS d lo e t a b c z st) := by
  simp [mIfS, mBl, mBin, mVar, mC, bnd, DL.ret, lift, eq_int, optB, isBl, h, mPass]
theorem cut_first {fff : Fn} {d : D} {lo t fst : Int} {e : Option Int} {a b c z : Slot} {st : List Ob} (h : fff [d, .int t, .int lo, oD e] st = .ok (.int fst) st) : mSet 4 (mCall fff (mCons (mVar 0) (mCons (mVar 3) (mCons (mVar 1) (mCons (mVar 2) mNil))))) (cS d lo e t a b c z st) = .ok .nx (cS d lo e t (.imm (.int fst)) b c z st) := by
  simp [mSet, mCall, mCons, mNil, mVar, bnd, DL.ret, h, outR, S.put]
def over (e : Option Int) (fst : Int) : Bool := match e with
  | none => false
  | some h => decide (h < fst)
theorem cut_test {d : D} {lo t fst : Int} {e : Option Int} {b c z : Slot} {st : List Ob} : mAndT (mBl (mBin fNotN (mVar 2) (mC .non))) (mBl (mBin iGt (mVar 4) (mVar 2))) (cS d lo e t (.imm (.int fst)) b c z st) = .ok (over e fst) (cS d lo e t (.imm (.int fst)) b c z st) := by
  cases e <;> simp [over, mAndT, mBl, mBin, fNotN, DL.isNon, oD, mVar, mC, bnd, DL.ret, lift, optB, isBl, iGt, intF]
theorem cut_over {d : D} {lo t fst h : Int} {b c z : Slot} {st : List Ob} : mRet (mFz (mLst (mCons (mTup (mCons (mVar 1) (mCons (mVar 2) (mCons (mUn iNeg (mVar 3)) mNil)))) mNil))) (cS d lo (some h) t (.imm (.int fst)) b c z st) = .ok (.rt (.lst [pD (lo, some h, -t)])) (cS d lo (some h) t (.imm (.int fst)) b c z st) := by
  simp [mRet, mFz, mLst, mCons, mNil, mTup, mVar, mUn, iNeg, bnd, DL.ret, lift, few, pD, oD]
theorem cut_sec {frv : Fn} {d : D} {lo t fst x : Int} {e : Option Int} {b c z : Slot} {st : List Ob} (h : frv [d, .int fst] st = .ok (.int x) st) : mSet 5 (mBin fAdd (mVar 4) (mUn fInt (mBin fEq (mCall frv (mCons (mVar 0) (mCons (mVar 4) mNil))) (mC (.int 0))))) (cS d lo e t (.imm (.int fst)) b c z st) = .ok .nx (cS d lo e t (.imm (.int fst)) (.imm (.int (fst + (if x = 0 then 1 else 0)))) c z st) := by
  simp [mSet, mBin, mUn, mCall, mCons, mNil, mVar, mC, bnd, DL.ret, h, outR, S.put, lift, eq_int, fInt, fAdd]
theorem cut_three {d : D} {lo t fst sec : Int} {e : Option Int} {c z : Slot} {st : List Ob} : mOwn 6 (mLst (mCons (mTup (mCons (mVar 1) (mCons (mBin iSub (mVar 4) (mC (.int 1))) (mCons (mUn iNeg (mVar 3)) mNil)))) (mCons (mTup (mCons (mVar 4) (mCons (mBin iSub (mVar 5) (mC (.int 1))) (mCons (mC (.int 0)) mNil)))) (mCons (mTup (mCons (mVar 5) (mCons (mVar 2) (mCons (mVar 3) mNil)))) mNil)))) (cS d lo e t (.imm (.int fst)) (.imm (.int sec)) c z st) = .ok .nx (cS d lo e t (.imm (.int fst)) (.imm (.int sec)) (.own ([(lo, some (fst - 1), -t), (fst, some (sec - 1), 0), (sec, e, t)].map pD)) z st) := by
  simp [mOwn, mLst, mCons, mNil, mTup, mVar, mC, mBin, iSub, intF, mUn, iNeg, bnd, DL.ret, lift, few, pD, oD, S.put]
theorem keep_test {sl : List Slot} {p : Prt} {st : List Ob} (h : sl[7]? = some (.imm (pD p))) : mOrT (mBl (mBin fIsN (mIxN 7 (mC (.int 1))) (mC .non))) (mBl (mBin iLe (mIxN 7 (mC (.int 0))) (mIxN 7 (mC (.int 1))))) ⟨sl, st⟩ = .ok (keep p) ⟨sl, st⟩ := by
  obtain ⟨lo, e, s⟩ := p
  cases e <;> simp [mOrT, mBl, mBin, fIsN, DL.isNon, mIxN, mIxV, cur, h, pD, oD, ixD, atI, ixN, mC, bnd, DL.ret, lift, optB, isBl, iLe, intF, keep]
theorem filterMap_keep : ∀ (l : List Prt) (F : D → Option D), (∀ p ∈ l, F (pD p) = if keep p then some (pD p) else none) → (l.map pD).filterMap F = (l.filter keep).map pD
  | [], _, _ => rfl
  | p :: l, F, h => by
    have ih := filterMap_keep l F fun q hq => h q (List.mem_cons_of_mem _ hq)
    have e := h p List.mem_cons_self
    rw [List.map_cons, List.filterMap_cons, e]
    cases c : keep p
    · simp [c, ih]
    · simp [c, ih]
def keepD : D → Option D
  | .tup [.int lo, .non, s] => some (.tup [.int lo, .non, s])
  | .tup [.int lo, .int h, s] => if lo ≤ h then some (.tup [.int lo, .int h, s]) else none
  | _ => none
theorem keepD_eq (p : Prt) : keepD (pD p) = if keep p then some (pD p) else none := by
  obtain ⟨lo, e, s⟩ := p
  cases e <;> simp [keepD, pD, oD, keep]
theorem cut_keep {d : D} {lo t : Int} {e : Option Int} {x y : Int} {l : List Prt} {st : List Ob} (hl : l.length ≤ 1000) : mRet (mFz (mLc (mIt (mVar 6)) (gNm 7) (mOrT (mBl (mBin fIsN (mIxN 7 (mC (.int 1))) (mC .non))) (mBl (mBin iLe (mIxN 7 (mC (.int 0))) (mIxN 7 (mC (.int 1)))))) (mVar 7) [7])) (cS d lo e t (.imm (.int x)) (.imm (.int y)) (.own (l.map pD)) .emp st) = .ok (.rt (.lst ((l.filter keep).map pD))) (cS d lo e t (.imm (.int x)) (.imm (.int y)) (.imm (.lst (l.map pD))) .emp st) := by
  have hc := lc_gen (it := mIt (mVar 6)) (g := gNm 7) (t := mOrT (mBl (mBin fIsN (mIxN 7 (mC (.int 1))) (mC .non))) (mBl (mBin iLe (mIxN 7 (mC (.int 0))) (mIxN 7 (mC (.int 1)))))) (m := mVar 7) (vs := [7]) (F := keepD) (s0 := cS d lo e t (.imm (.int x)) (.imm (.int y)) (.own (l.map pD)) .emp st) (s := cS d lo e t (.imm (.int x)) (.imm (.int y)) (.imm (.lst (l.map pD))) .emp st) (ds := l.map pD) (by simp [mIt, mVar, bnd, itD, S.put]) (by simp [noX]) (by simp [wipeS, S.put]) (fun q hq => by
    obtain ⟨p, hp, rfl⟩ := List.mem_map.mp hq
    refine ⟨[(7, pD p)], rfl, by simp [noX, S.puts, S.put], by simp [wipeS, S.puts, S.put], ?_⟩
    have k := keep_test (sl := [.imm d, .imm (.int lo), .imm (oD e), .imm (.int t), .imm (.int x), .imm (.int y), .imm (.lst (l.map pD)), .imm (pD p)]) (p := p) (st := st) rfl
    rw [keepD_eq]
    cases c : keep p
    · rw [c] at k
      exact k
    · rw [c] at k
      exact ⟨k, by simp [mVar, S.puts, S.put]⟩) (by rw [List.length_map]; unfold few; omega)
  rw [filterMap_keep l keepD (fun p _ => keepD_eq p)] at hc
  simp only [mRet, mFz, bnd, hc, DL.ret]
theorem fin_rt {m : MS} {n : Nat} {as : List D} {d : D} {st : List Ob} {s : S} (h : m ⟨slots n as, st⟩ = .ok (.rt d) s) : fnM n m as st = .ok d s.st := by
  simp [fnM, h, endR]
theorem cut_main {fsg frv fff : Fn} {d : D} {lo t fst x : Int} {e : Option Int} {st : List Ob} (ht : t ≠ 0) (h1 : fff [d, .int t, .int lo, oD e] st = .ok (.int fst) st) (h2 : ∀ h, e = some h → fst ≤ h) (h3 : frv [d, .int fst] st = .ok (.int x) st) :
    fnM 8 (cutM fsg frv fff) [d, .int lo, oD e, .int t] st = .ok (.lst (([(lo, some (fst - 1), -t), (fst, some (fst + (if x = 0 then 1 else 0) - 1), 0), (fst + (if x = 0 then 1 else 0), e, t)].filter keep).map pD)) st := by
  have te := cut_test (d := d) (lo := lo) (t := t) (fst := fst) (e := e) (b := .emp) (c := .emp) (z := .emp) (st := st)
  have tf : over e fst = false := by
    cases e with
    | none => rfl
    | some h => exact decide_eq_false (by have := h2 h rfl; omega)
  rw [tf] at te
  refine fin_rt (s := cS d lo e t (.imm (.int fst)) (.imm (.int (fst + (if x = 0 then 1 else 0)))) (.imm (.lst ([(lo, some (fst - 1), -t), (fst, some (fst + (if x = 0 then 1 else 0) - 1), 0), (fst + (if x = 0 then 1 else 0), e, t)].map pD))) .emp st) ?_
  show cutM fsg frv fff (cS d lo e t .emp .emp .emp .emp st) = _
  unfold cutM
  rw [seq_nx (cut_t ht), seq_nx (cut_first h1), seq_nx (if_no te), seq_nx (cut_sec h3), seq_nx cut_three]
  exact cut_keep (by simp)
theorem cut_high {fsg frv fff : Fn} {d : D} {lo t fst h : Int} {st : List Ob} (ht : t ≠ 0) (h1 : fff [d, .int t, .int lo, .int h] st = .ok (.int fst) st) (h2 : h < fst) :
    fnM 8 (cutM fsg frv fff) [d, .int lo, .int h, .int t] st = .ok (.lst [pD (lo, some h, -t)]) st := by
  have te := cut_test (d := d) (lo := lo) (t := t) (fst := fst) (e := some h) (b := .emp) (c := .emp) (z := .emp) (st := st)
  rw [show over (some h) fst = true from decide_eq_true h2] at te
  refine fin_rt (s := cS d lo (some h) t (.imm (.int fst)) .emp .emp .emp st) ?_
  show cutM fsg frv fff (cS d lo (some h) t .emp .emp .emp .emp st) = _
  unfold cutM
  rw [seq_nx (cut_t ht), seq_nx (cut_first (e := some h) h1)]
  have : mIfS (mAndT (mBl (mBin fNotN (mVar 2) (mC .non))) (mBl (mBin iGt (mVar 4) (mVar 2)))) (mRet (mFz (mLst (mCons (mTup (mCons (mVar 1) (mCons (mVar 2) (mCons (mUn iNeg (mVar 3)) mNil)))) mNil)))) mPass (cS d lo (some h) t (.imm (.int fst)) .emp .emp .emp st) = .ok (.rt (.lst [pD (lo, some h, -t)])) (cS d lo (some h) t (.imm (.int fst)) .emp .emp .emp st) := by
    rw [mIfS, bnd_of te, if_pos rfl]
    exact cut_over
  rw [seq_rt this]
/-- what is known of a row's value at numbers of N bits -/
def AtR (d : D) (st : List Ob) (f : Int → Int) (N : Nat) : Prop := ∀ n, sm N n → f_row_value [d, .int n] st = .ok (.int (f n)) st ∧ sm 399990 (f n)
theorem AtR.mono {d : D} {st : List Ob} {f : Int → Int} {M N : Nat} (h : AtR d st f N) (l : M ≤ N) : AtR d st f M := fun n hn => h n (sm_mono hn l)
theorem AtR.at {d : D} {st : List Ob} {f : Int → Int} {t : Int} {N : Nat} (h : AtR d st f N) (ht : t = 1 ∨ t = -1) : At f_row_value d st f t N := fun n hn => by
  obtain ⟨a, b⟩ := h n hn
  refine ⟨a, mul_sm ?_ (sm_mono b (by decide))⟩
  rcases ht with rfl | rfl <;> (unfold sm; exact Nat.one_lt_two_pow (by decide))
theorem smM1 {N : Nat} {x : Int} (h : sm N x) : sm (N + 1) (x - 1) ∧ sm (N + 1) (x + 1) := by
  have p := Nat.pow_pos (n := N) (show 0 < 2 by decide)
  have : (2 ^ (N + 1) : Nat) = 2 * 2 ^ N := by rw [Nat.pow_succ]; omega
  rw [sm_iff] at h
  constructor <;> (rw [sm_iff]; omega)
/-- one stretch, along which the differences have one sign, is cut rightly -/
theorem cut_ok {d : D} {st : List Ob} {f g : Int → Int} {lo t : Int} {e : Option Int} {M K N : Nat} (hN : N ≤ 300000) (hA : AtR d st f (N + 1)) (hd : ∀ n, f (n + 1) - f n = g n) (ht : t = 1 ∨ t = -1 ∨ t = 0) (ho : one g lo e t) (hle : leO lo e) (s1 : sm M lo) (s2 : ∀ h, e = some h → sm M h) (hM : M ≤ K + 2) (hK : K + 3 ≤ N) (s3 : sm K (f lo)) :
    ∃ ps, f_cut_by_sign [d, .int lo, oD e, .int t] st = .ok (.lst (ps.map pD)) st ∧ Ch f (sm (N + 2)) e lo ps ∧ ps.length ≤ 3 := by
  have hf : f_cut_by_sign = fnM 8 (cutM f_sign_of f_row_value f_first_from) := rfl
  have bl : sm (N + 2) lo := sm_mono s1 (by omega)
  by_cases tz : t = 0
  · subst tz
    have a := (hA lo (sm_mono s1 (by omega))).1
    refine ⟨[(lo, e, sgn (f lo))], ?_, .last hle bl (con_one hd ho), by simp⟩
    rw [hf]
    exact cut_zero a sign_eq
  · have ht' : t = 1 ∨ t = -1 := by omega
    have hi := inc_of ht' hd ho
    have hAt := (hA.mono (show N ≤ N + 1 by omega)).at ht'
    have ff : ∃ fst, f_first_from [d, .int t, .int lo, oD e] st = .ok (.int fst) st ∧ FirstIs f t lo e fst ∧ sm (N + 1) fst := by
      cases e with
      | none => exact ff_none (K := K) ht' (by omega) hAt hi (sm_mono s1 hM) s3 hK
      | some h => exact ff_some hAt hi hle (sm_mono s1 (by omega)) (sm_mono (s2 h rfl) (by omega))
    obtain ⟨fst, e1, ⟨q1, q2, q3, q4⟩, sf⟩ := ff
    by_cases c : ∃ h, e = some h ∧ h < fst
    · obtain ⟨h, rfl, hl⟩ := c
      have eh := q4 h rfl
      refine ⟨[(lo, some h, -t)], ?_, cut_no ht' (fun n a b => q2 n a (by omega)) hle bl, by simp⟩
      rw [hf]
      exact cut_high tz e1 hl
    · have hle2 : leO fst e := by
        cases e with
        | none => trivial
        | some h => show fst ≤ h; exact Int.not_lt.mp fun k => c ⟨h, rfl, k⟩
      refine ⟨_, ?_, cut_ch ht' hi hle q1 q2 q3 hle2 bl (sm_mono sf (by omega)) (smM1 sf).1 (smM1 sf).2, Nat.le_trans (List.length_filter_le _ _) (by simp)⟩
      rw [hf]
      exact cut_main tz e1 (fun h eh => by rw [eh] at hle2; exact hle2) (hA fst sf).1
def jBody : MS := mIfS (mAndT (mBl (mBin iGt (mUn fLen (mLook 1)) (mC (.int 0)))) (mBl (mBin fEq (mBin ixD (mIxN 1 (mUn iNeg (mC (.int 1)))) (mC (.int 2))) (mVar 4)))) (mSetIx 1 (mUn iNeg (mC (.int 1))) (mTup (mCons (mBin ixD (mIxN 1 (mUn iNeg (mC (.int 1)))) (mC (.int 0))) (mCons (mVar 3) (mCons (mVar 4) mNil))))) (mExpr (mApp 1 (mTup (mCons (mVar 2) (mCons (mVar 3) (mCons (mVar 4) mNil))))))
abbrev jS (d : D) (acc : List Prt) (a b c : Slot) (st : List Ob) : S := ⟨[.imm d, .own (acc.map pD), a, b, c], st⟩
theorem atI_last {init : List D} {l : D} : atI (init ++ [l]) (-1) = some l := by
  have : ixN (init.length + 1) (-1) = some init.length := by
    unfold ixN
    rw [if_neg (show ¬ (0 : Int) ≤ -1 by omega), if_pos (by omega)]
    congr 1
    omega
  simp [atI, this]
theorem ixN_last {n : Nat} : ixN (n + 1) (-1) = some n := by
  unfold ixN
  rw [if_neg (show ¬ (0 : Int) ≤ -1 by omega), if_pos (by omega)]
  congr 1
  omega
theorem jBody_eq {d : D} {acc : List Prt} {p : Prt} {st : List Ob} (h : acc.length < 1000) : jBody (jS d acc (.imm (.int p.1)) (.imm (oD p.2.1)) (.imm (.int p.2.2)) st) = .ok .nx (jS d (jst acc p) (.imm (.int p.1)) (.imm (oD p.2.1)) (.imm (.int p.2.2)) st) := by
  obtain ⟨lo, e, s⟩ := p
  rcases List.eq_nil_or_concat acc with rfl | ⟨init, l, rfl⟩
  · simp [jBody, jst, mIfS, mAndT, mBl, mBin, iGt, intF, mUn, fLen, itD, mLook, cur, mC, bnd, DL.ret, lift, optB, isBl, mExpr, mApp, mTup, mCons, mNil, mVar, few, S.put, pD]
  · rw [List.concat_eq_append, jst_app]
    obtain ⟨l1, l2, l3⟩ := l
    have len : (init ++ [(l1, l2, l3)]).length = init.length + 1 := by simp
    rw [List.concat_eq_append, len] at h
    have a1 : atI ((init ++ [(l1, l2, l3)]).map pD) (-1) = some (pD (l1, l2, l3)) := by rw [List.map_append, List.map_singleton]; exact atI_last
    have te : mAndT (mBl (mBin iGt (mUn fLen (mLook 1)) (mC (.int 0)))) (mBl (mBin fEq (mBin ixD (mIxN 1 (mUn iNeg (mC (.int 1)))) (mC (.int 2))) (mVar 4))) (jS d (init ++ [(l1, l2, l3)]) (.imm (.int lo)) (.imm (oD e)) (.imm (.int s)) st) = .ok (decide (l3 = s)) (jS d (init ++ [(l1, l2, l3)]) (.imm (.int lo)) (.imm (oD e)) (.imm (.int s)) st) := by
      refine and_tf (b := decide (l3 = s)) ?_ ?_
      · simp only [mBl, mBin, iGt, intF, mUn, fLen, itD, Option.map_some, mLook, cur, mC, bnd, DL.ret, lift, optB, isBl, List.getElem?_cons_succ, List.getElem?_cons_zero, List.length_map, len]
        have : decide ((0 : Int) < ((init.length + 1 : Nat) : Int)) = true := decide_eq_true (by omega)
        simp [this]
      · have l1' : ixD (.lst ((init ++ [(l1, l2, l3)]).map pD)) (.int (-1)) = some (pD (l1, l2, l3)) := a1
        have a2 : ixD (pD (l1, l2, l3)) (.int 2) = some (.int l3) := by simp [pD, ixD, atI, ixN]
        simp only [mBl, mBin, mIxN, mIxV, cur, mUn, iNeg, mC, mVar, bnd, DL.ret, lift, List.getElem?_cons_succ, List.getElem?_cons_zero, l1', a2, optB, isBl, Int.reduceNeg, eq_int]
    unfold jBody
    rw [mIfS, bnd_of te]
    by_cases c : l3 = s
    · rw [decide_eq_true c, if_pos rfl, if_pos c]
      have st1 : mSetIx 1 (mUn iNeg (mC (.int 1))) (mTup (mCons (mBin ixD (mIxN 1 (mUn iNeg (mC (.int 1)))) (mC (.int 0))) (mCons (mVar 3) (mCons (mVar 4) mNil)))) (jS d (init ++ [(l1, l2, l3)]) (.imm (.int lo)) (.imm (oD e)) (.imm (.int s)) st) = .ok .nx ⟨[.imm d, .own (((init ++ [(l1, l2, l3)]).map pD).set init.length (.tup [.int l1, oD e, .int s])), .imm (.int lo), .imm (oD e), .imm (.int s)], st⟩ := by
        have a0 : ixD (pD (l1, l2, l3)) (.int 0) = some (.int l1) := by simp [pD, ixD, atI, ixN]
        have li : ixN ((init ++ [(l1, l2, l3)]).map pD).length (-1) = some init.length := by rw [List.length_map, len]; exact ixN_last
        have l1' : ixD (.lst ((init ++ [(l1, l2, l3)]).map pD)) (.int (-1)) = some (pD (l1, l2, l3)) := a1
        simp only [mSetIx, mTup, mCons, mNil, mBin, mIxN, mIxV, cur, mUn, iNeg, mC, mVar, bnd, DL.ret, lift, List.getElem?_cons_succ, List.getElem?_cons_zero, l1', a0, Int.reduceNeg, few, List.length_cons, List.length_nil, li, S.put, List.set_cons_succ, List.set_cons_zero]
        simp [ixN_last, List.set_append_right]
      rw [st1]
      have q : ((init ++ [(l1, l2, l3)]).map pD).set init.length (.tup [.int l1, oD e, .int s]) = (init ++ [(l1, e, s)]).map pD := by
        rw [List.map_append, List.map_append, List.set_append_right _ _ (by simp)]
        simp [pD]
      rw [q]
    · rw [decide_eq_false c, if_neg (by simp), if_neg c]
      have l3 : few (((init ++ [(l1, l2, l3)]).map pD).length + 1) := by rw [List.length_map, len]; unfold few; omega
      simp only [mExpr, mApp, mTup, mCons, mNil, mVar, bnd, DL.ret, List.getElem?_cons_succ, List.getElem?_cons_zero, few, List.length_cons, List.length_nil, S.put, List.set_cons_succ, List.set_cons_zero] at l3 ⊢
      have h' : init.length ≤ 999998 := by omega
      simp [h', pD]
end SG
namespace SG
open PySem PySem.Spec L2 DL LC SP SZ
abbrev g234 : MG := gTp 3 (gsCons (gNm 2) (gsCons (gNm 3) (gsCons (gNm 4) gsNil)))
theorem jo_loop {d : D} {st : List Ob} : ∀ (ps acc : List Prt) (a b c : Slot), acc.length + ps.length ≤ 900 → ∃ a' b' c', fo g234 jBody (ps.map pD) (jS d acc a b c st) = .ok .nx (jS d (ps.foldl jst acc) a' b' c' st)
  | [], acc, a, b, c, _ => ⟨a, b, c, by simp [fo, DL.ret]⟩
  | p :: ps, acc, a, b, c, h => by
    simp only [List.length_cons] at h
    have l := jst_len acc p
    obtain ⟨a', b', c', e⟩ := jo_loop (d := d) (st := st) ps (jst acc p) (.imm (.int p.1)) (.imm (oD p.2.1)) (.imm (.int p.2.2)) (by omega)
    refine ⟨a', b', c', ?_⟩
    rw [List.map_cons, fo_step (l := [(2, .int p.1), (3, oD p.2.1), (4, .int p.2.2)]) rfl (s2 := jS d (jst acc p) (.imm (.int p.1)) (.imm (oD p.2.1)) (.imm (.int p.2.2)) st) (jBody_eq (by omega)), e]
    rfl
abbrev sS (d : D) (lo : Int) (e : Option Int) (p3 p4 p5 : Slot) (st : List Ob) : S := ⟨[.imm d, .imm (.int lo), .imm (oD e), p3, p4, p5, .emp, .emp, .emp, .emp], st⟩
def H3 (p : Slot) (l : List D) : Prop := p = .own l ∨ p = .imm (.lst l)
abbrev g678 : MG := gTp 3 (gsCons (gNm 6) (gsCons (gNm 7) (gsCons (gNm 8) gsNil)))
def sIt (fc : Fn) : MA := mIt (mCall fc (mCons (mSlN 0 (mPart (mVar 4)) mNoP) (mCons (mVar 6) (mCons (mVar 7) (mCons (mVar 8) mNil)))))
theorem sIt_eq {fc : Fn} {d y : D} {l0 k : Int} {e0 : Option Int} {a b c p3 p5 : Slot} {x6 x7 x8 : D} {out : List D} {st : List Ob} (hc : cutD d (some k) none = some y) (h : fc [y, x6, x7, x8] st = .ok (.lst out) st) :
    sIt fc ⟨[.imm d, .imm (.int l0), .imm (oD e0), p3, .imm (.int k), p5, .imm x6, .imm x7, .imm x8, .emp], st⟩ = .ok out ⟨[.imm d, .imm (.int l0), .imm (oD e0), p3, .imm (.int k), p5, .imm x6, .imm x7, .imm x8, .emp], st⟩ := by
  simp [sIt, mIt, mCall, mCons, mNil, mSlN, mPart, mNoP, mVar, cur, bnd, DL.ret, lift, hc, h, outR, itD]
theorem lcs_id {i : Nat} {s : S} (he : s.sl[i]? = some .emp) (hx : noX s = true) (ds acc : List D) (hl : acc.length + ds.length ≤ 1000) : lcs (gNm i) mYes (mVar i) [i] acc ds s = .ok (acc ++ ds) s := by
  have := lcs_map (m := mVar i) (f := id) he hx ds acc (fun d _ => by
    have : (s.put i (.imm d)).sl[i]? = some (.imm d) := by
      show (s.sl.set i (.imm d))[i]? = _
      rw [List.getElem?_set_self]
      exact (List.getElem?_eq_some_iff.mp he).1
    simp [mVar, this]) (by unfold few; omega)
  simpa using this
/-- what is known of the cutting function at one row -/
def CutAt (fc : Fn) (y : D) (st : List Ob) (f g : Int → Int) (M N : Nat) : Prop := ∀ lo e t, sm M lo → (∀ h, e = some h → sm M h) → leO lo e → one g lo e t → ∃ ps, fc [y, .int lo, oD e, .int t] st = .ok (.lst (ps.map pD)) st ∧ Ch f (sm N) e lo ps ∧ ps.length ≤ 3
theorem cuts_step {fc : Fn} {d y : D} {l0 k : Int} {e0 : Option Int} {ps : List D} {p3 p5 : Slot} {p : Prt} {qs : List Prt} {acc : List D} {st : List Ob} (hx : noX (sS d l0 e0 p3 (.imm (.int k)) p5 st) = true) (hc : cutD d (some k) none = some y) (h : fc [y, .int p.1, oD p.2.1, .int p.2.2] st = .ok (.lst (qs.map pD)) st) (hl : acc.length + qs.length ≤ 1000) :
    lcs2 g678 mYes (sIt fc) (gNm 9) mYes (mVar 9) [6, 7, 8, 9] [9] acc (pD p :: ps) (sS d l0 e0 p3 (.imm (.int k)) p5 st) = lcs2 g678 mYes (sIt fc) (gNm 9) mYes (mVar 9) [6, 7, 8, 9] [9] (acc ++ qs.map pD) ps (sS d l0 e0 p3 (.imm (.int k)) p5 st) := by
  have i := sIt_eq (l0 := l0) (e0 := e0) (p3 := p3) (p5 := p5) (a := .emp) (b := .emp) (c := .emp) hc h
  have hx2 : noX ⟨[.imm d, .imm (.int l0), .imm (oD e0), p3, .imm (.int k), p5, .imm (.int p.1), .imm (oD p.2.1), .imm (.int p.2.2), .emp], st⟩ = true := by
    simpa [noX] using hx
  rw [lcs2_step (l := [(6, .int p.1), (7, oD p.2.1), (8, .int p.2.2)]) (s5 := ⟨[.imm d, .imm (.int l0), .imm (oD e0), p3, .imm (.int k), p5, .imm (.int p.1), .imm (oD p.2.1), .imm (.int p.2.2), .emp], st⟩) rfl rfl i hx2 (lcs_id (by rfl) (by simpa [noX, wipeS, S.put] using hx) _ _ (by simpa using hl))]
  rfl
theorem cuts {fc : Fn} {d y : D} {l0 k : Int} {e0 : Option Int} {p3 p5 : Slot} {st : List Ob} {f g : Int → Int} {M N : Nat} (hx : noX (sS d l0 e0 p3 (.imm (.int k)) p5 st) = true) (hc : cutD d (some k) none = some y) (hC : CutAt fc y st f g M N) (hMN : M ≤ N) {e : Option Int} (he : ∀ h, e = some h → sm M h) {lo : Int} {ps : List Prt} (c : Ch g (sm M) e lo ps) : ∀ acc : List D, acc.length + 3 * ps.length ≤ 900 →
    ∃ qs : List Prt, lcs2 g678 mYes (sIt fc) (gNm 9) mYes (mVar 9) [6, 7, 8, 9] [9] acc (ps.map pD) (sS d l0 e0 p3 (.imm (.int k)) p5 st) = .ok (acc ++ qs.map pD) (sS d l0 e0 p3 (.imm (.int k)) p5 st) ∧ Ch f (sm N) e lo qs ∧ qs.length ≤ 3 * ps.length := by
  induction c with
  | @last lo s h1 h2 h3 =>
    intro acc hl
    obtain ⟨qs, e1, e2, e3⟩ := hC lo e s h2 he h1 h3
    refine ⟨qs, ?_, e2, by simpa using e3⟩
    simp only [List.length_cons, List.length_nil] at hl
    rw [List.map_cons, List.map_nil, cuts_step (p := (lo, e, s)) hx hc e1 (by omega)]
    simp [lcs2]
  | @cons lo h s r h1 h2 h3 h4 cr ih =>
    intro acc hl
    simp only [List.length_cons] at hl
    obtain ⟨qs, e1, e2, e3⟩ := hC lo (some h) s h2 (fun h' q => by cases q; exact h3) h1 h4
    obtain ⟨rs, r1, r2, r3⟩ := ih (acc ++ qs.map pD) (by simp; omega)
    refine ⟨qs ++ rs, ?_, ?_, by simp; omega⟩
    · rw [List.map_cons, cuts_step (p := (lo, some h, s)) hx hc e1 (by omega), r1]
      simp
    · exact e2.app (sm_mono h3 hMN) r2
theorem s_lc {fc : Fn} {d : D} {lo k : Int} {e : Option Int} {p3 p5 : Slot} {l out : List D} {st : List Ob} (h3 : H3 p3 l) (h5 : ∀ x, p5 ≠ .xn x) (h : lcs2 g678 mYes (sIt fc) (gNm 9) mYes (mVar 9) [6, 7, 8, 9] [9] [] l (sS d lo e (.imm (.lst l)) (.imm (.int k)) p5 st) = .ok out (sS d lo e (.imm (.lst l)) (.imm (.int k)) p5 st)) :
    mOwn 5 (mLc2 (mIt (mVar 3)) g678 mYes (sIt fc) (gNm 9) mYes (mVar 9) [6, 7, 8, 9] [9]) (sS d lo e p3 (.imm (.int k)) p5 st) = .ok .nx (sS d lo e (.imm (.lst l)) (.imm (.int k)) (.own out) st) := by
  have a1 : mIt (mVar 3) (sS d lo e p3 (.imm (.int k)) p5 st) = .ok l (sS d lo e (.imm (.lst l)) (.imm (.int k)) p5 st) := by
    rcases h3 with rfl | rfl <;> simp [mIt, mVar, bnd, itD, S.put]
  have hx : noX (sS d lo e (.imm (.lst l)) (.imm (.int k)) p5 st) = true := by
    cases p5 with
    | xn x => exact (h5 x rfl).elim
    | _ => rfl
  have hw : wipeS (sS d lo e (.imm (.lst l)) (.imm (.int k)) p5 st) [6, 7, 8, 9] = sS d lo e (.imm (.lst l)) (.imm (.int k)) p5 st := rfl
  unfold mOwn mLc2
  simp only [bnd, a1, hx, if_true, hw, h]
  rfl
/-- bounds of bits, level by level -/
def mb : Nat → Nat
  | 0 => 300
  | j + 1 => 1200 + ((mb j + 1) * j + 1) + (j + 1) + 5
theorem mb_fit : ∀ j, j < 5 → 1200 + ((mb j + 1) * j + 1) + (j + 1) + 3 ≤ 300000 ∧ mb j ≤ 1200 + ((mb j + 1) * j + 1) + (j + 1) + 2 ∧ (1200 + ((mb j + 1) * j + 1) + (j + 1) + 3 + 1 + 1) * j + (1200 + ((mb j + 1) * j + 1) + (j + 1) + 3 + 1) + 2 ≤ 400000 ∧ 1200 + ((1200 + ((mb j + 1) * j + 1) + (j + 1) + 3 + 1 + 1) * j + 1) + (j + 1) ≤ 399990 ∧ 5 ≤ mb j := by decide
theorem atR_row {N L : Nat} {r : List Int} {st : List Ob} (hN : 5 ≤ N) (hL : L ≤ 19) (hB : (N + 1) * L + N + 2 ≤ 400000) (hV : 1200 + ((N + 1) * L + 1) + (L + 1) ≤ 399990) (hl : r.length ≤ L + 1) (ha : ∀ a ∈ r, sm 1200 a) : AtR (.tup (r.map .int)) st (rv r) N := fun n hn =>
  ⟨rv_eqN rfl hn hN hL hB (by omega) hl ha, sm_mono (rvA_smN hn hN hL r 0 (by omega) ha) (by omega)⟩
theorem cutAt_ok {r : List Int} {a : Int} {st : List Ob} {j : Nat} (hj : j < 5) (hl : (a :: r).length ≤ j + 1) (ha : ∀ x ∈ a :: r, sm 1200 x) : CutAt f_cut_by_sign (.tup ((a :: r).map .int)) st (rv (a :: r)) (rv r) (mb j) (mb (j + 1)) := by
  intro lo e t s1 s2 hle ho
  obtain ⟨q1, q2, q3, q4, q5⟩ := mb_fit j hj
  have ht : t = 1 ∨ t = -1 ∨ t = 0 := by
    have := ho lo (Int.le_refl _) hle
    rcases sgn_cases (rv r lo) with ⟨x, _⟩ | ⟨x, _⟩ | ⟨x, _⟩ <;> omega
  have hA := atR_row (st := st) (N := 1200 + ((mb j + 1) * j + 1) + (j + 1) + 3 + 1) (L := j) (by omega) (by omega) q3 q4 hl ha
  have s3 : sm (1200 + ((mb j + 1) * j + 1) + (j + 1)) (rv (a :: r) lo) := sm_mono (rvA_smN (A := 1200) s1 q5 (by omega : j ≤ 19) (a :: r) 0 (by omega) ha) (by omega)
  exact cut_ok q1 hA (fun n => rv_diff a r n) ht ho hle s1 s2 q2 (Nat.le_refl _) s3
theorem drop_pred {r : List Int} {m : Nat} (h : m < r.length) : ∃ a, r.drop m = a :: r.drop (m + 1) ∧ a ∈ r := ⟨r[m], List.drop_eq_getElem_cons h, List.getElem_mem h⟩
theorem mb_mono {j : Nat} (h : j < 5) : mb j ≤ mb (j + 1) := by
  have := (mb_fit j h).2.1
  show mb j ≤ 1200 + ((mb j + 1) * j + 1) + (j + 1) + 5
  omega
theorem mb_300 : ∀ j, j < 6 → 300 ≤ mb j := by decide
theorem steps_cons (a c : Int) (n : Nat) : stepsD a c (n + 1) = .int a :: stepsD (a + c) c n := by
  unfold stepsD
  rw [List.range_succ_eq_map, List.map_cons, List.map_map]
  congr 1
  · simp
  · apply List.map_congr_left
    intro k _
    show D.int _ = D.int _
    congr 1
    push_cast
    rw [Int.add_mul]
    omega
/-- what is asked of the row as data -/
structure RowD (d : D) (r : List Int) : Prop where
  len : fLen d = some (.int r.length)
  cut : ∀ k : Nat, k < r.length → cutD d (some (k : Int)) none = some (.tup ((r.drop k).map .int))
theorem RowD.tup (r : List Int) : RowD (.tup (r.map .int)) r := ⟨by simp [fLen, itD], fun k h => cut_from (by omega)⟩
def Jd (ps : List Prt) : Prop := ∃ cs : List Prt, ps = cs.foldl jst []
theorem rng_down : ∀ n : Nat, n ≤ 5 → (((-1 : Int) ≠ 0 ∧ (-1 : Int).natAbs < 1073741824 ∧ Builtin.Range.small ((n : Int) - 1) (-1) (-1) = true ∧ 0 ≤ Builtin.Range.rangeSize ((n : Int) - 1) (-1) (-1)) ∧ (Builtin.Range.rangeSize ((n : Int) - 1) (-1) (-1)).toNat = n) := by decide +kernel
theorem rng3_down {n : Nat} (h : n ≤ 5) : rng3 [.int ((n : Int) - 1), .int (-1), .int (-1)] = some (stepsD ((n : Int) - 1) (-1) n) := by
  obtain ⟨a, b⟩ := rng_down n h
  show (if _ then _ else _) = _
  rw [if_pos a, b]
theorem so_it {d : D} {lo : Int} {e : Option Int} {n : Nat} {p3 p4 p5 : Slot} {R : List D} {rg : List D → Option (List D)} {st : List Ob} (hd : fLen d = some (.int n)) (hr : rg [.int ((n : Int) - 1), .int (-1), .int (-1)] = some R) : mRng rg (mCons (mBin iSub (mUn fLen (mLook 0)) (mC (.int 1))) (mCons (mUn iNeg (mC (.int 1))) (mCons (mUn iNeg (mC (.int 1))) mNil))) (sS d lo e p3 p4 p5 st) = .ok R (sS d lo e p3 p4 p5 st) := by
  simp [mRng, mCons, mNil, mBin, mUn, mLook, cur, mC, bnd, DL.ret, lift, hd, iSub, intF, iNeg, hr]
end SG
namespace SG
open PySem PySem.Spec L2 DL LC SP SZ
abbrev aS (x y : D) (m f g : Slot) (st : List Ob) : S := ⟨[.imm x, .imm y, m, f, g, .emp], st⟩
end SG
namespace SG
open PySem PySem.Spec L2 DL LC SP SZ
end SG
namespace SG
open PySem PySem.Spec L2 DL LC SP SZ
def prD (p : Int × Int) : D := .tup [.int p.1, .int p.2]
end SG
namespace SX
open PySem PySem.Spec L2 DL LC SP SZ SG
theorem mvR0 : ∀ r : List Int, mvR r 0 = r
  | [] => rfl
  | a :: r => by
    show rv (a :: r) 0 :: mvR r 0 = a :: r
    rw [rv_at0, mvR0 r]
end SX
namespace SX
open PySem PySem.Spec L2 DL
noncomputable section
abbrev LL : List Str := ["BadValue", "NotExact", "EmptySpan", "NoBound"]
abbrev SS : List Str := ["EverynameError"]
abbrev m__law_whole : MS := LC.m__law_whole
abbrev f__law_whole : Fn := LC.f__law_whole
abbrev m__law_size_is : MS := LC.m__law_size_is
abbrev f__law_size_is : Fn := LC.f__law_size_is
abbrev m_trimmed : MS := LC.m_trimmed
abbrev f_trimmed : Fn := LC.f_trimmed
abbrev m_is_whole : MS := LC.m_is_whole
abbrev f_is_whole : Fn := LC.f_is_whole
abbrev m_whole_list : MS := LC.m_whole_list
abbrev f_whole_list : Fn := LC.f_whole_list
def m_Size___init__ : MS := (mSeq (mIfS (mNotT (mTru (mCall f_whole_list (mCons (mVar 1) mNil)))) (mRaiseN "BadValue" ["shown"] (mCons (mVar 1) mNil)) mPass)
  (mSetF "Size" "row" (mVar 0) (mCall f_trimmed (mCons (mVar 1) mNil))))
def f_Size___init__ : Fn := fnM 2 m_Size___init__
def m_Size___floordiv__ : MS := (mSeq (mIfS (mOrT (mNotT (mTru (mCall f_is_whole (mCons (mVar 1) mNil)))) (mBl (mBin fEq (mVar 1) (mC (.int 0))))) (mRaiseN "BadValue" ["shown"] (mCons (mVar 1) mNil)) mPass)
  (mSeq (mIfS (mNotT (mTru (mUn fAll (mFz (mLc (mIt (mFld "Size" "row" (mVar 0))) (gNm 2) mYes (mBin fEq (mBin jMod (mVar 2) (mVar 1)) (mC (.int 0))) [2]))))) (mRaiseN "NotExact" ["by"] (mCons (mVar 1) mNil)) mPass)
  (mRet (mMake "Size" f_Size___init__ (mCons (mFz (mLc (mIt (mFld "Size" "row" (mVar 0))) (gNm 2) mYes (mBin jDiv (mVar 2) (mVar 1)) [2])) mNil)))))
def f_Size___floordiv__ : Fn := fnM 3 m_Size___floordiv__
abbrev n__law_error : Nat := 2
def cs__law_error : List ClM := [(HKN.tabL LL "BadValue", some 1, (mRet (mIf (mAndT (mTru (mIsX (HKN.tabT LL) 1)) (mTru (mIsX (HKN.tabT LL) 1))) (mTup (mCons (mC (.str "value")) (mCons (mXf 1 "BadValue" "shown") mNil))) (mC .non)))), (HKN.tabL LL "NotExact", some 1, (mRet (mIf (mTru (mIsX (HKN.tabT LL) 1)) (mTup (mCons (mC (.str "exact")) (mCons (mXf 1 "NotExact" "by") mNil))) (mC .non)))), (HKN.tabL LL "EmptySpan", some 1, (mRet (mTup (mCons (mC (.str "empty")) (mCons (mIsX (HKN.tabT LL) 1) mNil))))), (HKN.tabL LL "NoBound", some 1, (mRet (mTup (mCons (mC (.str "bound")) (mCons (mIsX (HKN.tabT LL) 1) mNil)))))]
def r__law_error : MS := (mRet (mC .non))
abbrev m__law_draw : MS := LC.m__law_draw
abbrev f__law_draw : Fn := LC.f__law_draw
abbrev m__law_pick : MS := LC.m__law_pick
abbrev f__law_pick : Fn := LC.f__law_pick
def m__law_divided : MS := (mSeq (mSet 3 (mCall f__law_pick (mCons (mVar 0) (mCons (mFz (mLst (mCons (mC (.int 1)) (mCons (mUn iNeg (mC (.int 1))) (mCons (mC (.int 2)) (mCons (mC (.int 3)) (mCons (mUn iNeg (mC (.int 6))) (mCons (mBin fAdd (mBin iPow (mC (.int 10)) (mC (.int 60))) (mC (.int 7))) mNil)))))))) mNil))))
  (mSeq (mSet 4 (mMake "Size" f_Size___init__ (mCons (mFz (mLc (mIt (mVar 2)) (gNm 5) mYes (mBin fMul (mVar 5) (mVar 3)) [5])) mNil)))
  (mSeq (mIfS (mNotT (mTru (mCall f__law_size_is (mCons (mOpI "Size" f_Size___floordiv__ (mVar 4) (mVar 3)) (mCons (mVar 2) mNil))))) (mRet (mC (.bl false))) mPass)
  (mSeq (mIfS (mTru (mUn fAll (mFz (mLc (mIt (mVar 2)) (gNm 5) mYes (mBin fEq (mBin jMod (mUn fInt (mLook 5)) (mVar 3)) (mC (.int 0))) [5])))) (mRet (mCall f__law_size_is (mCons (mOpI "Size" f_Size___floordiv__ (mVar 1) (mVar 3)) (mCons (mUn fTuple (mFz (mLc (mIt (mVar 2)) (gNm 5) mYes (mBin jDiv (mVar 5) (mVar 3)) [5]))) mNil)))) mPass)
  (mRet (mBin fEq (mLamT n__law_error cs__law_error r__law_error (mOpI "Size" f_Size___floordiv__ (mVar 1) (mVar 3))) (mTup (mCons (mC (.str "exact")) (mCons (mVar 3) mNil)))))))))
def f__law_divided : Fn := fnM 6 m__law_divided
abbrev m_Size___eq__ : MS := LC.m_Size___eq__
abbrev f_Size___eq__ : Fn := LC.f_Size___eq__
abbrev m_row_value : MS := LC.m_row_value
abbrev f_row_value : Fn := LC.f_row_value
abbrev m_differences : MS := LC.m_differences
abbrev f_differences : Fn := LC.f_differences
def m_multiply_rows : MS := (mSeq (mIfS (mOrT (mBl (mBin fEq (mUn fLen (mLook 0)) (mC (.int 0)))) (mBl (mBin fEq (mUn fLen (mLook 1)) (mC (.int 0))))) (mRet (mTup mNil)) mPass)
  (mRet (mCall f_differences (mCons (mFz (mLc (mRng rng1 (mCons (mBin iSub (mBin fAdd (mUn fLen (mLook 0)) (mUn fLen (mLook 1))) (mC (.int 1))) mNil)) (gNm 2) mYes (mBin fMul (mCall f_row_value (mCons (mVar 0) (mCons (mVar 2) mNil))) (mCall f_row_value (mCons (mVar 1) (mCons (mVar 2) mNil)))) [2])) mNil))))
def f_multiply_rows : Fn := fnM 3 m_multiply_rows
def m_Size___pow__ : MS := (mSeq (mIfS (mOrT (mNotT (mTru (mCall f_is_whole (mCons (mVar 1) mNil)))) (mBl (mBin iLt (mVar 1) (mC (.int 0))))) (mRaiseN "BadValue" ["shown"] (mCons (mVar 1) mNil)) mPass)
  (mSeq (mSet 2 (mTup (mCons (mC (.int 1)) mNil)))
  (mSeq (mFor (mRng rng1 (mCons (mVar 1) mNil)) (gNm 3) (mSet 2 (mCall f_multiply_rows (mCons (mVar 2) (mCons (mFld "Size" "row" (mVar 0)) mNil)))))
  (mRet (mMake "Size" f_Size___init__ (mCons (mVar 2) mNil))))))
def f_Size___pow__ : Fn := fnM 4 m_Size___pow__
abbrev m__law_choose : MS := LC.m__law_choose
abbrev f__law_choose : Fn := LC.f__law_choose
abbrev m__law_at : MS := LC.m__law_at
abbrev f__law_at : Fn := LC.f__law_at
abbrev m__law_cut : MS := LC.m__law_cut
abbrev f__law_cut : Fn := LC.f__law_cut
abbrev m__law_row_of : MS := LC.m__law_row_of
abbrev f__law_row_of : Fn := LC.f__law_row_of
def m__law_times : MS := (mRet (mCall f__law_row_of (mCons (mFz (mLc (mRng rng1 (mCons (mBin fAdd (mUn fLen (mLook 0)) (mUn fLen (mLook 1))) mNil)) (gNm 2) mYes (mBin fMul (mCall f__law_at (mCons (mVar 0) (mCons (mVar 2) mNil))) (mCall f__law_at (mCons (mVar 1) (mCons (mVar 2) mNil)))) [2])) mNil)))
def f__law_times : Fn := fnM 3 m__law_times
abbrev m_row_moved : MS := LC.m_row_moved
abbrev f_row_moved : Fn := LC.f_row_moved
def m_Size___lshift__ : MS := (mSeq (mIfS (mNotT (mTru (mCall f_is_whole (mCons (mVar 1) mNil)))) (mRaiseN "BadValue" ["shown"] (mCons (mVar 1) mNil)) mPass)
  (mRet (mMake "Size" f_Size___init__ (mCons (mCall f_row_moved (mCons (mFld "Size" "row" (mVar 0)) (mCons (mVar 1) mNil))) mNil))))
def f_Size___lshift__ : Fn := fnM 2 m_Size___lshift__
def m_Size___rshift__ : MS := (mSeq (mIfS (mNotT (mTru (mCall f_is_whole (mCons (mVar 1) mNil)))) (mRaiseN "BadValue" ["shown"] (mCons (mVar 1) mNil)) mPass)
  (mRet (mMake "Size" f_Size___init__ (mCons (mCall f_row_moved (mCons (mFld "Size" "row" (mVar 0)) (mCons (mUn iNeg (mVar 1)) mNil))) mNil))))
def f_Size___rshift__ : Fn := fnM 2 m_Size___rshift__
abbrev m_whole_row : MS := LC.m_whole_row
abbrev f_whole_row : Fn := LC.f_whole_row
abbrev m_row_of : MS := LC.m_row_of
abbrev f_row_of : Fn := LC.f_row_of
def m_Size___rmul__ : MS := (mSeq (mSet 2 (mCall f_row_of (mCons (mVar 1) mNil)))
  (mSeq (mIfS (mBl (mBin fIsN (mVar 2) (mC .non))) stk mPass)
  (mRet (mMake "Size" f_Size___init__ (mCons (mCall f_multiply_rows (mCons (mVar 2) (mCons (mFld "Size" "row" (mVar 0)) mNil))) mNil)))))
def f_Size___rmul__ : Fn := fnM 3 m_Size___rmul__
abbrev m_negated : MS := LC.m_negated
abbrev f_negated : Fn := LC.f_negated
abbrev m_add_rows : MS := LC.m_add_rows
abbrev f_add_rows : Fn := LC.f_add_rows
abbrev m_take_rows : MS := LC.m_take_rows
abbrev f_take_rows : Fn := LC.f_take_rows
def m_Size___rsub__ : MS := (mSeq (mSet 2 (mCall f_row_of (mCons (mVar 1) mNil)))
  (mSeq (mIfS (mBl (mBin fIsN (mVar 2) (mC .non))) stk mPass)
  (mRet (mMake "Size" f_Size___init__ (mCons (mCall f_take_rows (mCons (mVar 2) (mCons (mFld "Size" "row" (mVar 0)) mNil))) mNil)))))
def f_Size___rsub__ : Fn := fnM 3 m_Size___rsub__
abbrev m__law_plus : MS := LC.m__law_plus
abbrev f__law_plus : Fn := LC.f__law_plus
def m_Size___mul__ : MS := (mSeq (mSet 2 (mCall f_row_of (mCons (mVar 1) mNil)))
  (mSeq (mIfS (mBl (mBin fIsN (mVar 2) (mC .non))) stk mPass)
  (mRet (mMake "Size" f_Size___init__ (mCons (mCall f_multiply_rows (mCons (mFld "Size" "row" (mVar 0)) (mCons (mVar 2) mNil))) mNil)))))
def f_Size___mul__ : Fn := fnM 3 m_Size___mul__
def m_Size___radd__ : MS := (mSeq (mSet 2 (mCall f_row_of (mCons (mVar 1) mNil)))
  (mSeq (mIfS (mBl (mBin fIsN (mVar 2) (mC .non))) stk mPass)
  (mRet (mMake "Size" f_Size___init__ (mCons (mCall f_add_rows (mCons (mVar 2) (mCons (mFld "Size" "row" (mVar 0)) mNil))) mNil)))))
def f_Size___radd__ : Fn := fnM 3 m_Size___radd__
def m_Size___sub__ : MS := (mSeq (mSet 2 (mCall f_row_of (mCons (mVar 1) mNil)))
  (mSeq (mIfS (mBl (mBin fIsN (mVar 2) (mC .non))) stk mPass)
  (mRet (mMake "Size" f_Size___init__ (mCons (mCall f_take_rows (mCons (mFld "Size" "row" (mVar 0)) (mCons (mVar 2) mNil))) mNil)))))
def f_Size___sub__ : Fn := fnM 3 m_Size___sub__
def m_Size___add__ : MS := (mSeq (mSet 2 (mCall f_row_of (mCons (mVar 1) mNil)))
  (mSeq (mIfS (mBl (mBin fIsN (mVar 2) (mC .non))) stk mPass)
  (mRet (mMake "Size" f_Size___init__ (mCons (mCall f_add_rows (mCons (mFld "Size" "row" (mVar 0)) (mCons (mVar 2) mNil))) mNil)))))
def f_Size___add__ : Fn := fnM 3 m_Size___add__
def m_Size___neg__ : MS := (mRet (mMake "Size" f_Size___init__ (mCons (mCall f_negated (mCons (mFld "Size" "row" (mVar 0)) mNil)) mNil)))
def f_Size___neg__ : Fn := fnM 1 m_Size___neg__
abbrev m__law_great : MS := LC.m__law_great
abbrev f__law_great : Fn := LC.f__law_great
abbrev m__law_integer : MS := LC.m__law_integer
abbrev f__law_integer : Fn := LC.f__law_integer
abbrev m__law_row : MS := LC.m__law_row
abbrev f__law_row : Fn := LC.f__law_row
abbrev m__law_pen : MS := LC.m__law_pen
abbrev f__law_pen : Fn := LC.f__law_pen
def m_law : MS := (mSeq (mSet 1 (mCall f__law_pen (mCons (mVar 0) mNil)))
  (mSeq (mFor (mRng rng1 (mCons (mBin fAdd (mC (.int 3)) (mMin2 (mCons (mC (.int 5)) (mCons (mUn fLen (mLook 0)) mNil)))) mNil)) (gNm 2) (mSeq (mAsg (gTL 2 (gsCons (gNm 3) (gsCons (gNm 4) gsNil))) (mTup (mCons (mCall f__law_cut (mCons (mCall f__law_row (mCons (mVar 1) (mCons (mC (.int 6)) mNil))) mNil)) (mCons (mCall f__law_cut (mCons (mCall f__law_row (mCons (mVar 1) (mCons (mC (.int 6)) mNil))) mNil)) mNil))))
  (mSeq (mIfS (mBl (mBin fEq (mCall f__law_draw (mCons (mVar 1) (mCons (mC (.int 5)) mNil))) (mC (.int 0)))) (mSet 4 (mUn fTuple (mFz (mLc (mIt (mVar 3)) (gNm 7) mYes (mUn iNeg (mVar 7)) [7])))) mPass)
  (mSeq (mPar 5 6 (mCons (mMake "Size" f_Size___init__ (mCons (mVar 3) mNil)) (mCons (mMake "Size" f_Size___init__ (mCons (mVar 4) mNil)) mNil)))
  (mSeq (mAsg (gTL 2 (gsCons (gNm 7) (gsCons (gNm 8) gsNil))) (mTup (mCons (mCall f__law_integer (mCons (mVar 1) mNil)) (mCons (mCall f__law_integer (mCons (mVar 1) mNil)) mNil))))
  (mSeq (mPar 9 10 (mCons (mCall f__law_cut (mCons (mFz (mLst (mCons (mVar 7) mNil))) mNil)) (mCons (mUn fTuple (mFz (mLc (mIt (mVar 3)) (gNm 14) mYes (mUn iNeg (mVar 14)) [14]))) mNil)))
  (mSeq (mOwn 11 (mLst (mCons (mTup (mCons (mOp2 "Size" f_Size___add__ (mVar 5) (mVar 6)) (mCons (mCall f__law_plus (mCons (mVar 3) (mCons (mVar 4) mNil))) mNil))) (mCons (mTup (mCons (mOp2 "Size" f_Size___mul__ (mVar 5) (mVar 6)) (mCons (mCall f__law_times (mCons (mVar 3) (mCons (mVar 4) mNil))) mNil))) (mCons (mTup (mCons (mOp1 "Size" f_Size___neg__ (mVar 5)) (mCons (mVar 10) mNil))) mNil)))))
  (mSeq (mOwn 11 (mBinF lAddL (mVar 11) (mFz (mLst (mCons (mTup (mCons (mOp2 "Size" f_Size___sub__ (mVar 5) (mVar 6)) (mCons (mCall f__law_plus (mCons (mVar 3) (mCons (mFz (mLc (mIt (mVar 4)) (gNm 14) mYes (mUn iNeg (mVar 14)) [14])) mNil))) mNil))) (mCons (mTup (mCons (mOpI "Size" f_Size___add__ (mVar 5) (mVar 7)) (mCons (mCall f__law_plus (mCons (mVar 3) (mCons (mVar 9) mNil))) mNil))) mNil))))))
  (mSeq (mOwn 11 (mBinF lAddL (mVar 11) (mFz (mLst (mCons (mTup (mCons (mOpR "Size" f_Size___radd__ (mVar 7) (mVar 5)) (mCons (mCall f__law_plus (mCons (mVar 3) (mCons (mVar 9) mNil))) mNil))) (mCons (mTup (mCons (mOpI "Size" f_Size___sub__ (mVar 5) (mVar 7)) (mCons (mCall f__law_plus (mCons (mVar 3) (mCons (mFz (mLst (mCons (mUn iNeg (mVar 7)) mNil))) mNil))) mNil))) mNil))))))
  (mSeq (mOwn 11 (mBinF lAddL (mVar 11) (mFz (mLst (mCons (mTup (mCons (mOpR "Size" f_Size___rsub__ (mVar 7) (mVar 5)) (mCons (mCall f__law_plus (mCons (mVar 10) (mCons (mVar 9) mNil))) mNil))) (mCons (mTup (mCons (mOpI "Size" f_Size___mul__ (mVar 5) (mVar 7)) (mCons (mCall f__law_times (mCons (mVar 3) (mCons (mVar 9) mNil))) mNil))) mNil))))))
  (mSeq (mOwn 11 (mBinF lAddL (mVar 11) (mFz (mLst (mCons (mTup (mCons (mOpR "Size" f_Size___rmul__ (mVar 7) (mVar 5)) (mCons (mCall f__law_times (mCons (mVar 3) (mCons (mVar 9) mNil))) mNil))) mNil)))))
  (mSeq (mExpr (mApp 11 (mTup (mCons (mOpI "Size" f_Size___rshift__ (mVar 5) (mVar 8)) (mCons (mCall f__law_row_of (mCons (mFz (mLc (mRng rng1 (mCons (mUn fLen (mLook 3)) mNil)) (gNm 15) mYes (mCall f__law_at (mCons (mVar 3) (mCons (mBin iSub (mVar 15) (mVar 8)) mNil))) [15])) mNil)) mNil)))))
  (mSeq (mExpr (mApp 11 (mTup (mCons (mOpI "Size" f_Size___lshift__ (mVar 5) (mVar 8)) (mCons (mCall f__law_row_of (mCons (mFz (mLc (mRng rng1 (mCons (mUn fLen (mLook 3)) mNil)) (gNm 15) mYes (mCall f__law_at (mCons (mVar 3) (mCons (mBin fAdd (mVar 15) (mVar 8)) mNil))) [15])) mNil)) mNil)))))
  (mSeq (mPar 12 13 (mCons (mMake "Size" f_Size___init__ (mCons (mSlN 3 mNoP (mPart (mC (.int 4)))) mNil)) (mCons (mCall f__law_times (mCons (mSlN 3 mNoP (mPart (mC (.int 4)))) (mCons (mSlN 3 mNoP (mPart (mC (.int 4)))) mNil))) mNil)))
  (mSeq (mOwn 11 (mBinF lAddL (mVar 11) (mFz (mLst (mCons (mTup (mCons (mOpI "Size" f_Size___pow__ (mVar 12) (mC (.int 0))) (mCons (mTup (mCons (mC (.int 1)) mNil)) mNil))) (mCons (mTup (mCons (mOpI "Size" f_Size___pow__ (mVar 12) (mC (.int 1))) (mCons (mCall f__law_cut (mCons (mSlN 3 mNoP (mPart (mC (.int 4)))) mNil)) mNil))) (mCons (mTup (mCons (mOpI "Size" f_Size___pow__ (mVar 12) (mC (.int 2))) (mCons (mVar 13) mNil))) mNil)))))))
  (mSeq (mExpr (mApp 11 (mTup (mCons (mOpI "Size" f_Size___pow__ (mVar 12) (mC (.int 3))) (mCons (mCall f__law_times (mCons (mVar 13) (mCons (mSlN 3 mNoP (mPart (mC (.int 4)))) mNil))) mNil)))))
  (mSeq (mIfS (mNotT (mTru (mUn fAll (mFz (mLc (mIt (mVar 11)) (gTp 2 (gsCons (gNm 16) (gsCons (gNm 17) gsNil))) mYes (mCall f__law_size_is (mCons (mVar 16) (mCons (mVar 17) mNil))) [16, 17]))))) (mRet (mC (.bl false))) mPass)
  (mSeq (mIfS (mOrT (mBl (mBin fNe (mCmpO "Size" f_Size___eq__ (mVar 5) (mVar 6)) (mBin fEq (mVar 3) (mVar 4)))) (mOrT (mBl (mBin fEq (mNeO "Size" f_Size___eq__ (mVar 5) (mVar 6)) (mBin fEq (mVar 3) (mVar 4)))) (mBl (mNeO "Size" f_Size___eq__ (mMake "Size" f_Size___init__ (mCons (mFz (mBinF lAddL (mFz (mUnF itD (mLook 3))) (mFz (mLst (mCons (mC (.int 0)) mNil))))) mNil)) (mVar 5))))) (mRet (mC (.bl false))) mPass)
  (mSeq (mIfS (mOrT (mBl (mCmpO "Size" f_Size___eq__ (mMake "Size" f_Size___init__ (mCons (mVar 9) mNil)) (mVar 7))) (mNotT (mTru (mCall f__law_divided (mCons (mVar 1) (mCons (mVar 5) (mCons (mVar 3) mNil))))))) (mRet (mC (.bl false))) mPass)
  (mIfS (mOrT (mNotT (mTru (mCall f__law_size_is (mCons (mVar 5) (mCons (mVar 3) mNil))))) (mNotT (mTru (mCall f__law_size_is (mCons (mVar 6) (mCons (mVar 4) mNil)))))) (mRet (mC (.bl false))) mPass))))))))))))))))))))
  (mRet (mC (.bl true)))))
def f_law : Fn := fnM 18 m_law
end
end SX
namespace SX
open PySem PySem.Spec L2 DL LC SP SZ SG
abbrev szT (r : List Int) : Ob := szO (.tup (r.map .int))
theorem newLN {r : List Int} {st : List Ob} (hl : r.length ≤ 1000) : f_Size___init__ [.loc st.length, .lst (r.map .int)] (st ++ [.ins "Size" []]) = .ok .non (st ++ [szT (trm r)]) :=
  new_gen fun n fs st hn hf => si_gen (wl_eq (.inl rfl) hl) trimL hn hf
theorem newTN {r : List Int} {st : List Ob} (hl : r.length ≤ 1000) : f_Size___init__ [.loc st.length, .tup (r.map .int)] (st ++ [.ins "Size" []]) = .ok .non (st ++ [szT (trm r)]) :=
  new_gen fun n fs st hn hf => si_gen (wl_eq (.inr (.inl rfl)) hl) trimT hn hf
theorem newTT {r : List Int} {st : List Ob} (hl : r.length ≤ 1000) (ht : trm r = r) : f_Size___init__ [.loc st.length, .tup (r.map .int)] (st ++ [.ins "Size" []]) = .ok .non (st ++ [szT r]) := by
  have := newTN (st := st) hl
  rw [ht] at this
  exact this
section
variable {i : Nat} {y : D} {a c : List Int} {st : List Ob}
theorem sh_gen {fw fr fi : Fn} {rz : MS} {P : ME} {p k : Int} {x z : D} {st' : List Ob} (hP : P ⟨[.imm (.loc i), .imm (.int k)], st⟩ = .ok (.int p) ⟨[.imm (.loc i), .imm (.int k)], st⟩) (hi : st[i]? = some (szO x)) (h1 : fw [.int k] st = .ok (.bl true) st) (h2 : fr [x, .int p] st = .ok z st) (h3 : fi [.loc st.length, z] (st ++ [.ins "Size" []]) = .ok .non st') :
    fnM 2 (mSeq (mIfS (mNotT (mTru (mCall fw (mCons (mVar 1) mNil)))) rz mPass) (mRet (mMake "Size" fi (mCons (mCall fr (mCons (mFld "Size" "row" (mVar 0)) (mCons P mNil))) mNil)))) [.loc i, .int k] st = .ok (.loc st.length) st' := by
  show endR (mSeq _ _ ⟨[.imm (.loc i), .imm (.int k)], st⟩) = _
  have e : mIfS (mNotT (mTru (mCall fw (mCons (mVar 1) mNil)))) rz mPass ⟨[.imm (.loc i), .imm (.int k)], st⟩ = .ok .nx ⟨[.imm (.loc i), .imm (.int k)], st⟩ := by
    simp [mIfS, mNotT, mTru, mCall, mCons, mNil, mVar, bnd, DL.ret, h1, outR, optB, tru, mPass]
  rw [seq_nx e]
  simp [mCall, mCons, mNil, mVar, bnd, DL.ret, hP, outR, lift, mRet, mFld, insAt, hi, h2, mMake, h3, endR]
theorem rsh_op {A : Nat} {k : Int} (hi : st[i]? = some (szT a)) (hk : sm 1000 k) (hA : A ≤ 300000) (la : a.length ≤ 20) (sa : ∀ x ∈ a, sm A x) : f_Size___rshift__ [.loc i, .int k] st = .ok (.loc st.length) (st ++ [szT (trm (mvR a (-k)))]) :=
  sh_gen (p := -k) (by simp [mUn, mVar, bnd, DL.ret, iNeg, lift]) hi (isw_int k st) (rm_eq (sm_neg hk) hA la sa) (newTT (by have := trm_len (mvR a (-k)); have := mvR_len a (-k); omega) (trm_trm _))
end
end SX
namespace SX
open PySem PySem.Spec L2 DL LC SP SZ SG
theorem trm_mapR {f : Int → Int} {r : List Int} (h : ∀ x ∈ r, f x = 0 → x = 0) (ht : trm r = r) : trm (r.map f) = r.map f := by
  induction r with
  | nil => rfl
  | cons a r ih =>
    have hr : trm r = r := by
      rw [trm] at ht
      cases e : trm r with
      | nil =>
        rw [e] at ht
        by_cases c : a = 0
        · simp [c] at ht
        · simp [c] at ht; exact ht.symm
      | cons b t =>
        rw [e] at ht
        simp at ht
        exact ht
    have i := ih (fun x hx => h x (List.mem_cons_of_mem _ hx)) hr
    rw [List.map_cons, trm, i]
    cases r with
    | nil =>
      have c : ¬ a = 0 := fun c => by
        rw [trm] at ht
        simp [trm, c] at ht
      have : ¬ f a = 0 := fun z => c (h a (by simp) z)
      simp [this]
    | cons b t => simp
def divs (a : List Int) (k : Int) : Bool := a.all fun x => decide (x.fmod k = 0)
theorem divs_iff {a : List Int} {k : Int} : divs a k = true ↔ ∀ x ∈ a, x.fmod k = 0 := by simp [divs]
theorem all_map (a : List Int) (p : Int → Bool) : fAll (.lst (a.map fun x => .bl (p x))) = some (.bl (a.all p)) := by
  have := all_bl (a.map p)
  rw [List.map_map] at this
  rw [show (a.map fun x => D.bl (p x)) = a.map (D.bl ∘ p) from rfl, this]
  congr 2
  rw [List.all_map]
  rfl
/-- a map over a row -/
theorem lc_row {i : Nat} {it : MA} {m : ME} {f : Int → D} {s : DL.S} {a : List Int} (hit : it s = .ok (a.map .int) s) (he : s.sl[i]? = some .emp) (hx : noX s = true) (h : ∀ x ∈ a, m (s.put i (.imm (.int x))) = .ok (f x) (s.put i (.imm (.int x)))) (hl : a.length ≤ 1000) : mLc it (gNm i) mYes m [i] s = .ok (a.map f) s := by
  have := lc_map (i := i) (it := it) (m := m) (f := fun d => f (kInt d)) (s0 := s) (s := s) (ds := a.map .int) hit he hx (fun d hd => by
    obtain ⟨x, hx, rfl⟩ := List.mem_map.mp hd
    exact h x hx) (by rw [List.length_map]; unfold few; omega)
  rw [this, List.map_map]
  rfl
theorem md_el {sl : List Slot} {x k : Int} {j : Nat} {M : ME} {st : List Ob} (hk : k ≠ 0) (h1 : M ⟨sl, st⟩ = .ok (.int x) ⟨sl, st⟩) (h2 : sl[j]? = some (.imm (.int k))) : mBin fEq (mBin jMod M (mVar j)) (mC (.int 0)) ⟨sl, st⟩ = .ok (.bl (decide (x.fmod k = 0))) ⟨sl, st⟩ := by
  have e : jMod (.int x) (.int k) = some (.int (x.fmod k)) := jMod_int hk
  have e2 : fEq (.int (x.fmod k)) (.int 0) = some (.bl (decide (x.fmod k = 0))) := eq_int _ _
  simp [mBin, bnd, h1, mVar, h2, e, lift, DL.ret, mC, e2]
theorem dv_el {sl : List Slot} {x k : Int} {j : Nat} {M : ME} {st : List Ob} (hk : jDiv (.int x) (.int k) = some (.int (x.fdiv k))) (h1 : M ⟨sl, st⟩ = .ok (.int x) ⟨sl, st⟩) (h2 : sl[j]? = some (.imm (.int k))) : mBin jDiv M (mVar j) ⟨sl, st⟩ = .ok (.int (x.fdiv k)) ⟨sl, st⟩ := by
  simp [mBin, bnd, h1, mVar, h2, lift, DL.ret, hk]
theorem var_at {i : Nat} {sl : List Slot} {d : D} {st : List Ob} (h : sl[i]? = some (.imm d)) : mVar i ⟨sl, st⟩ = .ok d ⟨sl, st⟩ := by simp [mVar, h]
theorem it_of {M : ME} {d : D} {ds : List D} {s s' : DL.S} (h : M s = .ok d s') (hi : itD d = some ds) : mIt M s = .ok ds s' := by simp [mIt, bnd, h, hi]
/-- the test -/
theorem fd_test {i : Nat} {a : List Int} {k : Int} {st : List Ob} (hi : st[i]? = some (szT a)) (hk : k ≠ 0) (la : a.length ≤ 20) :
    mUn fAll (mFz (mLc (mIt (mFld "Size" "row" (mVar 0))) (gNm 2) mYes (mBin fEq (mBin jMod (mVar 2) (mVar 1)) (mC (.int 0))) [2])) ⟨[.imm (.loc i), .imm (.int k), .emp], st⟩ = .ok (.bl (divs a k)) ⟨[.imm (.loc i), .imm (.int k), .emp], st⟩ :=
  un_fz (lc_row (f := fun x => .bl (decide (x.fmod k = 0))) (it_of (fldS hi rfl) rfl) rfl rfl (fun x _ => md_el (sl := [.imm (.loc i), .imm (.int k), .imm (.int x)]) hk (var_at rfl) rfl) (by omega)) (all_map a _)
theorem fd_quo {i : Nat} {a : List Int} {k : Int} {st : List Ob} (hi : st[i]? = some (szT a)) (hk : ∀ x, jDiv (.int x) (.int k) = some (.int (x.fdiv k))) (la : a.length ≤ 20) :
    mLc (mIt (mFld "Size" "row" (mVar 0))) (gNm 2) mYes (mBin jDiv (mVar 2) (mVar 1)) [2] ⟨[.imm (.loc i), .imm (.int k), .emp], st⟩ = .ok ((a.map fun x => x.fdiv k).map .int) ⟨[.imm (.loc i), .imm (.int k), .emp], st⟩ := by
  have := lc_row (f := fun x => .int (x.fdiv k)) (i := 2) (m := mBin jDiv (mVar 2) (mVar 1)) (it_of (fldS (sl := [.imm (.loc i), .imm (.int k), .emp]) hi (j := 0) rfl) rfl) rfl rfl (fun x _ => dv_el (sl := [.imm (.loc i), .imm (.int k), .imm (.int x)]) (hk x) (var_at rfl) rfl) (by omega)
  rw [this, List.map_map]
  rfl
theorem fd_gen {fw fi : Fn} {rz : MS} {T : ME} {C : MA} {i : Nat} {k : Int} {b : Bool} {st : List Ob} (hk : k ≠ 0) (h1 : fw [.int k] st = .ok (.bl true) st) (hT : T ⟨[.imm (.loc i), .imm (.int k), .emp], st⟩ = .ok (.bl b) ⟨[.imm (.loc i), .imm (.int k), .emp], st⟩) :
    (∀ ds st', b = true → C ⟨[.imm (.loc i), .imm (.int k), .emp], st⟩ = .ok ds ⟨[.imm (.loc i), .imm (.int k), .emp], st⟩ → fi [.loc st.length, .lst ds] (st ++ [.ins "Size" []]) = .ok .non st' →
      fnM 3 (mSeq (mIfS (mOrT (mNotT (mTru (mCall fw (mCons (mVar 1) mNil)))) (mBl (mBin fEq (mVar 1) (mC (.int 0))))) rz mPass) (mSeq (mIfS (mNotT (mTru T)) (mRaiseN "NotExact" ["by"] (mCons (mVar 1) mNil)) mPass) (mRet (mMake "Size" fi (mCons (mFz C) mNil))))) [.loc i, .int k] st = .ok (.loc st.length) st') ∧
    (b = false → fnM 3 (mSeq (mIfS (mOrT (mNotT (mTru (mCall fw (mCons (mVar 1) mNil)))) (mBl (mBin fEq (mVar 1) (mC (.int 0))))) rz mPass) (mSeq (mIfS (mNotT (mTru T)) (mRaiseN "NotExact" ["by"] (mCons (mVar 1) mNil)) mPass) (mRet (mMake "Size" fi (mCons (mFz C) mNil))))) [.loc i, .int k] st = .exc ⟨"NotExact", [("by", .int k)]⟩ st) := by
  have e0 : fEq (.int k) (.int 0) = some (.bl false) := by rw [eq_int, decide_eq_false hk]
  have e : mIfS (mOrT (mNotT (mTru (mCall fw (mCons (mVar 1) mNil)))) (mBl (mBin fEq (mVar 1) (mC (.int 0))))) rz mPass ⟨[.imm (.loc i), .imm (.int k), .emp], st⟩ = .ok .nx ⟨[.imm (.loc i), .imm (.int k), .emp], st⟩ := by
    simp [mIfS, mOrT, mNotT, mTru, mBl, mBin, e0, mC, lift, isBl, mCall, mCons, mNil, mVar, bnd, DL.ret, h1, outR, optB, tru, mPass]
  constructor
  · intro ds st' hb hC hf
    subst hb
    show endR (mSeq _ _ ⟨[.imm (.loc i), .imm (.int k), .emp], st⟩) = _
    rw [seq_nx e]
    have e2 : mIfS (mNotT (mTru T)) (mRaiseN "NotExact" ["by"] (mCons (mVar 1) mNil)) mPass ⟨[.imm (.loc i), .imm (.int k), .emp], st⟩ = .ok .nx ⟨[.imm (.loc i), .imm (.int k), .emp], st⟩ := by
      simp [mIfS, mNotT, mTru, bnd, hT, optB, tru, DL.ret, mPass]
    rw [seq_nx e2]
    simp [mRet, mMake, mCons, mNil, mFz, bnd, DL.ret, hC, hf, endR]
  · intro hb
    subst hb
    show endR (mSeq _ _ ⟨[.imm (.loc i), .imm (.int k), .emp], st⟩) = _
    rw [seq_nx e]
    simp [mSeq, mIfS, mNotT, mTru, bnd, hT, optB, tru, DL.ret, mRaiseN, mCons, mNil, mVar, endR]
theorem fd_yes {i : Nat} {a : List Int} {k : Int} {st : List Ob} (hi : st[i]? = some (szT a)) (hk : k ≠ 0) (hq : ∀ x, jDiv (.int x) (.int k) = some (.int (x.fdiv k))) (la : a.length ≤ 20) (hd : divs a k = true) : f_Size___floordiv__ [.loc i, .int k] st = .ok (.loc st.length) (st ++ [szT (trm (a.map fun x => x.fdiv k))]) :=
  (fd_gen hk (isw_int k st) (fd_test hi hk la)).1 _ _ hd (fd_quo hi hq la) (newLN (by simp; omega))
end SX
namespace SX
open PySem PySem.Spec L2 DL LC SP SZ SG
theorem fz_of {m : MA} {ds : List D} {s s' : DL.S} (h : m s = .ok ds s') : mFz m s = .ok (.lst ds) s' := by simp [mFz, bnd, h, DL.ret]
end SX
namespace SX
open PySem PySem.Spec L2 DL LC SP SZ SG
def zS (sc ag ro ot on tw am by' fl aw du lo sq : Slot) (st : List Ob) : DL.S := ⟨[sc, .imm (.loc 0), ag, ro, ot, on, tw, am, by', fl, aw, du, lo, sq, .emp, .emp, .emp, .emp], st⟩
def nz : Slot → Bool := fun x => match x with | .xn _ => false | _ => true
theorem cons_of {m : ME} {ms : MA} {d : D} {ds : List D} {s s1 s2 : DL.S} (h1 : m s = .ok d s1) (h2 : ms s1 = .ok ds s2) : mCons m ms s = .ok (d :: ds) s2 := by simp [mCons, bnd, h1, h2, DL.ret]
theorem nil_of {s : DL.S} : mNil s = .ok [] s := rfl
theorem call_of {f : Fn} {mm : MA} {ds : List D} {z : D} {s s1 : DL.S} {st' : List Ob} (h1 : mm s = .ok ds s1) (h2 : f ds s1.st = .ok z st') : mCall f mm s = .ok z { s1 with st := st' } := by simp [mCall, bnd, h1, h2, outR]
theorem call_same {f : Fn} {mm : MA} {ds : List D} {z : D} {s s1 : DL.S} (h1 : mm s = .ok ds s1) (h2 : f ds s1.st = .ok z s1.st) : mCall f mm s = .ok z s1 := call_of h1 h2
theorem opI_of {fn : Fn} {a b : ME} {i : Nat} {k : Int} {x z : D} {s : DL.S} {st' : List Ob} (ha : a s = .ok (.loc i) s) (hb : b s = .ok (.int k) s) (hi : s.st[i]? = some (szO x)) (hf : fn [.loc i, .int k] s.st = .ok z st') : mOpI "Size" fn a b s = .ok z { s with st := st' } := by
  simp [mOpI, bnd, ha, hb, insAt, hi, hf, outR]
theorem pr_of {m1 m2 : ME} {s s1 s2 : DL.S} {x y : D} (h1 : m1 s = .ok x s1) (h2 : m2 s1 = .ok y s2) : mTup (mCons m1 (mCons m2 mNil)) s = .ok (.tup [x, y]) s2 := by
  have f : few 2 := by unfold few; omega
  simp [mTup, mCons, mNil, bnd, h1, h2, DL.ret, f]
end SX
namespace SX
open PySem PySem.Spec L2 DL LC SP SZ SG
section
variable {sc ag : D} {a b : List Int} {i j : Nat} {m y : Int} {lo sq du : Slot} {st0 st more : List Ob}
theorem at_app {i : Nat} {x : Ob} (h : st0[i]? = some x) : (st0 ++ more)[i]? = some x := by
  rw [List.getElem?_append_left (List.getElem?_eq_some_iff.mp h).1]; exact h
end
end SX
namespace SX
open PySem PySem.Spec L2 DL LC SP SZ SG
section
variable {sc ag : D} {a b : List Int} {i j : Nat} {m y : Int} {lo sq du : Slot} {st0 st more : List Ob}
def lw (a : List Int) : List Int := trm (a.take 4)
variable {q : Nat}
end
end SX
namespace SX
open PySem PySem.Spec L2 DL LC SP SZ SG
noncomputable section
def w1 : MS := mAsg (gTL 2 (gsCons (gNm 3) (gsCons (gNm 4) gsNil))) (mTup (mCons (mCall f__law_cut (mCons (mCall f__law_row (mCons (mVar 1) (mCons (mC (.int 6)) mNil))) mNil)) (mCons (mCall f__law_cut (mCons (mCall f__law_row (mCons (mVar 1) (mCons (mC (.int 6)) mNil))) mNil)) mNil)))
def w2 : MS := mIfS (mBl (mBin fEq (mCall f__law_draw (mCons (mVar 1) (mCons (mC (.int 5)) mNil))) (mC (.int 0)))) (mSet 4 (mUn fTuple (mFz (mLc (mIt (mVar 3)) (gNm 7) mYes (mUn iNeg (mVar 7)) [7])))) mPass
def w3 : MS := mPar 5 6 (mCons (mMake "Size" f_Size___init__ (mCons (mVar 3) mNil)) (mCons (mMake "Size" f_Size___init__ (mCons (mVar 4) mNil)) mNil))
def w4 : MS := mAsg (gTL 2 (gsCons (gNm 7) (gsCons (gNm 8) gsNil))) (mTup (mCons (mCall f__law_integer (mCons (mVar 1) mNil)) (mCons (mCall f__law_integer (mCons (mVar 1) mNil)) mNil)))
def w5 : MS := mPar 9 10 (mCons (mCall f__law_cut (mCons (mFz (mLst (mCons (mVar 7) mNil))) mNil)) (mCons (mUn fTuple (mFz (mLc (mIt (mVar 3)) (gNm 14) mYes (mUn iNeg (mVar 14)) [14]))) mNil))
def w6 : MS := mOwn 11 (mLst (mCons (mTup (mCons (mOp2 "Size" f_Size___add__ (mVar 5) (mVar 6)) (mCons (mCall f__law_plus (mCons (mVar 3) (mCons (mVar 4) mNil))) mNil))) (mCons (mTup (mCons (mOp2 "Size" f_Size___mul__ (mVar 5) (mVar 6)) (mCons (mCall f__law_times (mCons (mVar 3) (mCons (mVar 4) mNil))) mNil))) (mCons (mTup (mCons (mOp1 "Size" f_Size___neg__ (mVar 5)) (mCons (mVar 10) mNil))) mNil))))
def w7 : MS := mOwn 11 (mBinF lAddL (mVar 11) (mFz (mLst (mCons (mTup (mCons (mOp2 "Size" f_Size___sub__ (mVar 5) (mVar 6)) (mCons (mCall f__law_plus (mCons (mVar 3) (mCons (mFz (mLc (mIt (mVar 4)) (gNm 14) mYes (mUn iNeg (mVar 14)) [14])) mNil))) mNil))) (mCons (mTup (mCons (mOpI "Size" f_Size___add__ (mVar 5) (mVar 7)) (mCons (mCall f__law_plus (mCons (mVar 3) (mCons (mVar 9) mNil))) mNil))) mNil)))))
def w8 : MS := mOwn 11 (mBinF lAddL (mVar 11) (mFz (mLst (mCons (mTup (mCons (mOpR "Size" f_Size___radd__ (mVar 7) (mVar 5)) (mCons (mCall f__law_plus (mCons (mVar 3) (mCons (mVar 9) mNil))) mNil))) (mCons (mTup (mCons (mOpI "Size" f_Size___sub__ (mVar 5) (mVar 7)) (mCons (mCall f__law_plus (mCons (mVar 3) (mCons (mFz (mLst (mCons (mUn iNeg (mVar 7)) mNil))) mNil))) mNil))) mNil)))))
def w9 : MS := mOwn 11 (mBinF lAddL (mVar 11) (mFz (mLst (mCons (mTup (mCons (mOpR "Size" f_Size___rsub__ (mVar 7) (mVar 5)) (mCons (mCall f__law_plus (mCons (mVar 10) (mCons (mVar 9) mNil))) mNil))) (mCons (mTup (mCons (mOpI "Size" f_Size___mul__ (mVar 5) (mVar 7)) (mCons (mCall f__law_times (mCons (mVar 3) (mCons (mVar 9) mNil))) mNil))) mNil)))))
def w10 : MS := mOwn 11 (mBinF lAddL (mVar 11) (mFz (mLst (mCons (mTup (mCons (mOpR "Size" f_Size___rmul__ (mVar 7) (mVar 5)) (mCons (mCall f__law_times (mCons (mVar 3) (mCons (mVar 9) mNil))) mNil))) mNil))))
def w11 : MS := mExpr (mApp 11 (mTup (mCons (mOpI "Size" f_Size___rshift__ (mVar 5) (mVar 8)) (mCons (mCall f__law_row_of (mCons (mFz (mLc (mRng rng1 (mCons (mUn fLen (mLook 3)) mNil)) (gNm 15) mYes (mCall f__law_at (mCons (mVar 3) (mCons (mBin iSub (mVar 15) (mVar 8)) mNil))) [15])) mNil)) mNil))))
def w12 : MS := mExpr (mApp 11 (mTup (mCons (mOpI "Size" f_Size___lshift__ (mVar 5) (mVar 8)) (mCons (mCall f__law_row_of (mCons (mFz (mLc (mRng rng1 (mCons (mUn fLen (mLook 3)) mNil)) (gNm 15) mYes (mCall f__law_at (mCons (mVar 3) (mCons (mBin fAdd (mVar 15) (mVar 8)) mNil))) [15])) mNil)) mNil))))
def w13 : MS := mPar 12 13 (mCons (mMake "Size" f_Size___init__ (mCons (mSlN 3 mNoP (mPart (mC (.int 4)))) mNil)) (mCons (mCall f__law_times (mCons (mSlN 3 mNoP (mPart (mC (.int 4)))) (mCons (mSlN 3 mNoP (mPart (mC (.int 4)))) mNil))) mNil))
def w14 : MS := mOwn 11 (mBinF lAddL (mVar 11) (mFz (mLst (mCons (mTup (mCons (mOpI "Size" f_Size___pow__ (mVar 12) (mC (.int 0))) (mCons (mTup (mCons (mC (.int 1)) mNil)) mNil))) (mCons (mTup (mCons (mOpI "Size" f_Size___pow__ (mVar 12) (mC (.int 1))) (mCons (mCall f__law_cut (mCons (mSlN 3 mNoP (mPart (mC (.int 4)))) mNil)) mNil))) (mCons (mTup (mCons (mOpI "Size" f_Size___pow__ (mVar 12) (mC (.int 2))) (mCons (mVar 13) mNil))) mNil))))))
def w15 : MS := mExpr (mApp 11 (mTup (mCons (mOpI "Size" f_Size___pow__ (mVar 12) (mC (.int 3))) (mCons (mCall f__law_times (mCons (mVar 13) (mCons (mSlN 3 mNoP (mPart (mC (.int 4)))) mNil))) mNil))))
def w16 : MS := mIfS (mNotT (mTru (mUn fAll (mFz (mLc (mIt (mVar 11)) (gTp 2 (gsCons (gNm 16) (gsCons (gNm 17) gsNil))) mYes (mCall f__law_size_is (mCons (mVar 16) (mCons (mVar 17) mNil))) [16, 17]))))) (mRet (mC (.bl false))) mPass
def w17 : MS := mIfS (mOrT (mBl (mBin fNe (mCmpO "Size" f_Size___eq__ (mVar 5) (mVar 6)) (mBin fEq (mVar 3) (mVar 4)))) (mOrT (mBl (mBin fEq (mNeO "Size" f_Size___eq__ (mVar 5) (mVar 6)) (mBin fEq (mVar 3) (mVar 4)))) (mBl (mNeO "Size" f_Size___eq__ (mMake "Size" f_Size___init__ (mCons (mFz (mBinF lAddL (mFz (mUnF itD (mLook 3))) (mFz (mLst (mCons (mC (.int 0)) mNil))))) mNil)) (mVar 5))))) (mRet (mC (.bl false))) mPass
def w18 : MS := mIfS (mOrT (mBl (mCmpO "Size" f_Size___eq__ (mMake "Size" f_Size___init__ (mCons (mVar 9) mNil)) (mVar 7))) (mNotT (mTru (mCall f__law_divided (mCons (mVar 1) (mCons (mVar 5) (mCons (mVar 3) mNil))))))) (mRet (mC (.bl false))) mPass
def w19 : MS := mIfS (mOrT (mNotT (mTru (mCall f__law_size_is (mCons (mVar 5) (mCons (mVar 3) mNil))))) (mNotT (mTru (mCall f__law_size_is (mCons (mVar 6) (mCons (mVar 4) mNil)))))) (mRet (mC (.bl false))) mPass
def turn : MS := mSeq w1 (mSeq w2 (mSeq w3 (mSeq w4 (mSeq w5 (mSeq w6 (mSeq w7 (mSeq w8 (mSeq w9 (mSeq w10 (mSeq w11 (mSeq w12 (mSeq w13 (mSeq w14 (mSeq w15 (mSeq w16 (mSeq w17 (mSeq w18 w19)))))))))))))))))
def lawM : MS := mSeq (mSet 1 (mCall f__law_pen (mCons (mVar 0) mNil))) (mSeq (mFor (mRng rng1 (mCons (mBin fAdd (mC (.int 3)) (mMin2 (mCons (mC (.int 5)) (mCons (mUn fLen (mLook 0)) mNil)))) mNil)) (gNm 2) turn) (mRet (mC (.bl true))))
end
section
variable {sc ag ro ot on tw am by' fl aw du lo sq : Slot} {st s1 s2 : List Ob}
theorem z2n {fd : Fn} {A : MS} {k : Int} (h : fd [.loc 0, .int 5] st = .ok (.int k) s1) (hk : k ≠ 0) :
    mIfS (mBl (mBin fEq (mCall fd (mCons (mVar 1) (mCons (mC (.int 5)) mNil))) (mC (.int 0)))) A mPass (zS sc ag ro ot on tw am by' fl aw du lo sq st) = .ok .nx (zS sc ag ro ot on tw am by' fl aw du lo sq s1) := by
  have e : fEq (.int k) (.int 0) = some (.bl false) := by rw [eq_int, decide_eq_false hk]
  simp [zS, mIfS, mBl, mBin, mCall, mCons, mNil, mVar, mC, bnd, DL.ret, h, outR, lift, e, optB, isBl, mPass]
theorem z2y {fd : Fn} {C : MA} {ds : List D} (h : fd [.loc 0, .int 5] st = .ok (.int 0) s1) (hC : C (zS sc ag ro ot on tw am by' fl aw du lo sq s1) = .ok ds (zS sc ag ro ot on tw .emp by' fl aw du lo sq s1)) :
    mIfS (mBl (mBin fEq (mCall fd (mCons (mVar 1) (mCons (mC (.int 5)) mNil))) (mC (.int 0)))) (mSet 4 (mUn fTuple (mFz C))) mPass (zS sc ag ro ot on tw am by' fl aw du lo sq st) = .ok .nx (zS sc ag ro (.imm (.tup ds)) on tw .emp by' fl aw du lo sq s1) := by
  have e : fEq (.int 0) (.int 0) = some (.bl true) := rfl
  have t : mBl (mBin fEq (mCall fd (mCons (mVar 1) (mCons (mC (.int 5)) mNil))) (mC (.int 0))) (zS sc ag ro ot on tw am by' fl aw du lo sq st) = .ok true (zS sc ag ro ot on tw am by' fl aw du lo sq s1) := by
    simp [zS, mBl, mBin, mCall, mCons, mNil, mVar, mC, bnd, DL.ret, h, outR, lift, e, optB, isBl]
  simp only [mIfS, bnd, t, if_true, mSet, mUn, mFz, hC, DL.ret, fTuple, itD, lift, Option.map_some]
  rfl
end
end SX
namespace SX
open PySem PySem.Spec L2 DL LC SP SZ SG
section
variable {sc ag : D} {a b : List Int} {i j : Nat} {m y : Int} {lo sq du : Slot} {st0 st more : List Ob}
theorem cutL' {r : List Int} : f__law_cut [.lst (r.map .int)] st = .ok (.tup ((trm r).map .int)) st := by
  show LC.f__law_cut _ _ = _
  rw [cut_is]
  exact trimL
end
/-- a turn's slots -/
structure Q where
  (ro ot on tw am by' fl aw du lo sq : Slot)
def Q.ok (q : Q) : Prop := nz q.ro = true ∧ nz q.ot = true ∧ nz q.on = true ∧ nz q.tw = true ∧ nz q.am = true ∧ nz q.by' = true ∧ nz q.fl = true ∧ nz q.aw = true ∧ nz q.du = true ∧ nz q.lo = true ∧ nz q.sq = true
theorem noX_q {sc ag x y : D} {q : Q} {am : Slot} {st : List Ob} (h : q.ok) (ha : nz am = true) : DL.noX (zS (.imm sc) (.imm ag) (.imm x) (.imm y) q.on q.tw am q.by' q.fl q.aw q.du q.lo q.sq st) = true := by
  obtain ⟨_, _, h3, h4, _, h6, h7, h8, h9, h10, h11⟩ := h
  have e : DL.noX (zS (.imm sc) (.imm ag) (.imm x) (.imm y) q.on q.tw am q.by' q.fl q.aw q.du q.lo q.sq st) = (nz q.on && (nz q.tw && (nz am && (nz q.by' && (nz q.fl && (nz q.aw && (nz q.du && (nz q.lo && (nz q.sq && true))))))))) := rfl
  rw [e, h3, h4, ha, h6, h7, h8, h9, h10, h11]; rfl
theorem trm_sm {l : List Int} (h : ∀ x ∈ l, sm 300 x) : ∀ x ∈ trm l, sm 300 x := fun x hx => h x (trm_mem hx)
theorem neg7 {sc ag y : D} {a : List Int} {q : Q} {st : List Ob} (h : q.ok) (la : a.length ≤ 6) :
    mLc (mIt (mVar 3)) (gNm 7) mYes (mUn iNeg (mVar 7)) [7] (zS (.imm sc) (.imm ag) (.imm (.tup (a.map .int))) (.imm y) q.on q.tw q.am q.by' q.fl q.aw q.du q.lo q.sq st) = .ok ((a.map (- ·)).map .int) (zS (.imm sc) (.imm ag) (.imm (.tup (a.map .int))) (.imm y) q.on q.tw .emp q.by' q.fl q.aw q.du q.lo q.sq st) := by
  have := lc_wipe (i := 7) (it := mIt (mVar 3)) (m := mUn iNeg (mVar 7)) (f := fun d => .int (- kInt d)) (s0 := zS (.imm sc) (.imm ag) (.imm (.tup (a.map .int))) (.imm y) q.on q.tw q.am q.by' q.fl q.aw q.du q.lo q.sq st) (s1 := zS (.imm sc) (.imm ag) (.imm (.tup (a.map .int))) (.imm y) q.on q.tw q.am q.by' q.fl q.aw q.du q.lo q.sq st) (s := zS (.imm sc) (.imm ag) (.imm (.tup (a.map .int))) (.imm y) q.on q.tw .emp q.by' q.fl q.aw q.du q.lo q.sq st) (ds := a.map .int) rfl (noX_q h h.2.2.2.2.1) rfl rfl (noX_q h rfl) (fun d hd => by
    obtain ⟨x, _, rfl⟩ := List.mem_map.mp hd
    rfl) (by unfold few; rw [List.length_map]; omega)
  rw [this, List.map_map, List.map_map]
  rfl
/-- the rows -/
theorem t2 {sc ag : D} {a b : List Int} {q : Q} {rs st : List Ob} {B : Nat} (hp : PenT B rs st) (hB : B < 2 ^ 30) (h : q.ok) (la : a.length ≤ 6) (lb : b.length ≤ 6) (sa : ∀ x ∈ a, sm 300 x) (sb : ∀ x ∈ b, sm 300 x) (ta : trm a = a) (tb : trm b = b) :
    ∃ (b' : List Int) (am : Slot) (st' : List Ob), w2 (zS (.imm sc) (.imm ag) (.imm (.tup (a.map .int))) (.imm (.tup (b.map .int))) q.on q.tw q.am q.by' q.fl q.aw q.du q.lo q.sq st) = .ok .nx (zS (.imm sc) (.imm ag) (.imm (.tup (a.map .int))) (.imm (.tup (b'.map .int))) q.on q.tw am q.by' q.fl q.aw q.du q.lo q.sq st') ∧ b'.length ≤ 6 ∧ (∀ x ∈ b', sm 300 x) ∧ trm b' = b' ∧ PenT (B + 1) rs st' := by
  obtain ⟨k, s1, e, k0, k1, p1⟩ := drawT hp hB (m := 5) (by omega) (by omega)
  by_cases c : k = 0
  · subst c
    refine ⟨a.map (- ·), .emp, s1, z2y e (neg7 h la), by simpa using la, fun x hx => ?_, trm_mapR (fun x _ hx => by omega) ta, p1⟩
    obtain ⟨z, hz, rfl⟩ := List.mem_map.mp hx
    exact sm_neg (sa z hz)
  · exact ⟨b, q.am, s1, z2n e c, lb, sb, tb, p1⟩
end SX
namespace SG
open PySem PySem.Spec L2 DL LC SP SZ
end SG
namespace SG
open PySem PySem.Spec L2 DL LC SP SZ
end SG
namespace SG
open PySem PySem.Spec L2 DL LC SP SZ
abbrev hS (b : Int) (fs : List (Int × Int)) (z3 z4 z5 : Slot) (st : List Ob) : S := ⟨[.imm (.loc 0), .imm (.int b), .own (fs.map prD), z3, z4, z5], st⟩
def hB (fd fp : Fn) : MS := mSeq (mSet 4 (mCall fp (mCons (mVar 0) (mCons (mFz (mLst (mCons (mC (.int 1)) (mCons (mC (.int 1)) (mCons (mC (.int 1)) (mCons (mC (.int 2)) (mCons (mC (.int 3)) mNil))))))) mNil))))
  (mExpr (mApp 2 (mTup (mCons (mVar 4) (mCons (mBin fAdd (mBin fMul (mVar 4) (mBin iSub (mBin fAdd (mVar 1) (mCall fd (mCons (mVar 0) (mCons (mC (.int 12)) mNil)))) (mC (.int 2)))) (mCall fd (mCons (mVar 0) (mCons (mVar 4) mNil)))) mNil)))))
theorem lrow4 {B : Nat} {rs st : List Ob} (h : PenT B rs st) (hB : B + 60 < 2 ^ 30) : ∃ (l : List Int) (st' : List Ob), f__law_row [.loc 0, .int 4] st = .ok (.lst (l.map .int)) st' ∧ (∀ x ∈ l, sm 300 x) ∧ l.length ≤ 4 ∧ PenT (B + 60) rs st' := by
  obtain ⟨k1, s1, e1, p1, q1, t1⟩ := drawT h (by omega) (m := 4) (by omega) (by omega)
  obtain ⟨k, rfl⟩ := Int.eq_ofNat_of_zero_le p1
  obtain ⟨zs, s', c1, c2, c3, s2, rfl, t2⟩ := lc_inv (it := mRng rng1 (mCons (mCall f__law_draw (mCons (mVar 0) (mCons (mVar 1) mNil))) mNil)) (g := gNm 2) (m := mCall f__law_integer (mCons (mVar 0) mNil)) (vs := [2])
    (I := fun n s => ∃ st, s = ⟨[.imm (.loc 0), .imm (.int 4), .emp], st⟩ ∧ PenT (B + 1 + 10 * n) rs st) (Q := fun z => ∃ k, sm 300 k ∧ z = .int k) (N := 5) (fun n s d hn ⟨st, hs, hp⟩ => by
      subst hs
      obtain ⟨x, st', e, o, p⟩ := int_sm hp (by omega)
      refine ⟨[(2, d)], .int x, _, rfl, lr_body (k := d) e, rfl, ⟨x, o, rfl⟩, st', rfl, ?_⟩
      have : B + 1 + 10 * (n + 1) = B + 1 + 10 * n + 10 := by omega
      rw [this]; exact p) (lr_rng (c := .emp) e1 (by omega)) rfl ⟨s1, rfl, t1⟩ (by rw [ints_len]; omega) (by rw [ints_len]; omega)
  rw [ints_len] at c2 t2
  obtain ⟨k3, s3, e3, p3, q3, t3⟩ := drawT t2 (by omega) (m := 4) (by omega) (by omega)
  obtain ⟨l, rfl, ok⟩ := un_ints c3
  have hl : l.length ≤ 3 := by simp at c2; omega
  have g := lr_gen (fd := f__law_draw) c1 e3 p3 q3 (by simp; omega)
  refine ⟨l ++ List.replicate (k3 / 2).toNat 0, s3, ?_, fun x hx => ?_, ?_, t3.mono (by omega)⟩
  · refine g.trans ?_
    congr 2
    simp [List.map_append]
  · rcases List.mem_append.mp hx with hx | hx
    · exact ok x hx
    · rw [List.eq_of_mem_replicate hx]; exact sm_lt (by omega) (by decide)
  · simp; omega
end SG
namespace SG
open PySem PySem.Spec L2 DL LC SP SZ
noncomputable section
def w1 : MS := mPar3 3 4 5 (mCons (mCall f__law_thing (mCons (mVar 1) (mCons (mCall f__law_base (mCons (mVar 1) mNil)) mNil))) (mCons (mCall f__law_row (mCons (mVar 1) (mCons (mC (.int 4)) mNil))) (mCons (mCall f__law_integer (mCons (mVar 1) mNil)) mNil)))
def w2 : MS := mIfS (mBl (mBin fEq (mCall f__law_draw (mCons (mVar 1) (mCons (mC (.int 8)) mNil))) (mC (.int 0)))) (mPut (mVar 3) (.inr "amount") (mC (.int 0))) mPass
def w3 : MS := mOwn 6 (mLc (mIt (mCall f__law_thing_signs (mCons (mVar 3) (mCons (mC (.int 0)) (mCons (mC .non) mNil))))) (gTp 3 (gsCons (gNm 9) (gsCons (gNm 10) (gsCons (gNm 11) gsNil)))) mYes (mVar 11) [9, 10, 11])
def w4 : MS := mPar 7 8 (mCons (mMake "Size" f_Size___init__ (mCons (mCall f__law_plus (mCons (mVar 4) (mCons (mCall f__law_thing_row (mCons (mVar 3) mNil)) mNil))) mNil)) (mCons (mMake "Size" f_Size___init__ (mCons (mVar 4) mNil)) mNil))
def w5 : MS := mIfS (mNotT (mTru (mCall f__law_compares (mCons (mVar 7) (mCons (mVar 8) (mCons (mVar 6) mNil)))))) (mRet (mC (.bl false))) mPass
def w6 : MS := mIfS (mNotT (mTru (mCall f__law_compares (mCons (mMake "Size" f_Size___init__ (mCons (mCall f__law_plus (mCons (mCall f__law_thing_row (mCons (mVar 3) mNil)) (mCons (mFz (mLst (mCons (mVar 5) mNil))) mNil))) mNil)) (mCons (mVar 5) (mCons (mVar 6) mNil)))))) (mRet (mC (.bl false))) mPass
def w7 : MS := mIfS (mOrT (mBl (mBin fNe (mCmpO "Size" f_Size___eq__ (mVar 7) (mVar 8)) (mBin fEq (mGet (mVar 3) (.inr "amount")) (mC (.int 0))))) (mNotT (mTru (mCall f__law_compares (mCons (mVar 8) (mCons (mVar 8) (mCons (mFz (mLst (mCons (mC (.int 0)) mNil))) mNil))))))) (mRet (mC (.bl false))) mPass
def turn : MS := mSeq w1 (mSeq w2 (mSeq w3 (mSeq w4 (mSeq w5 (mSeq w6 w7)))))
def lawM : MS := (mSeq (mSet 1 (mCall f__law_pen (mCons (mVar 0) mNil)))
  (mSeq (mFor (mRng rng1 (mCons (mBin fAdd (mC (.int 2)) (mMin2 (mCons (mC (.int 2)) (mCons (mUn fLen (mLook 0)) mNil)))) mNil)) (gNm 2) turn) (mRet (mC (.bl true)))))
end
abbrev tS (sc ag th row am sg one oth : Slot) (st : List Ob) : S := ⟨[sc, .imm (.loc 0), ag, th, row, am, sg, one, oth, .emp, .emp, .emp], st⟩
end SG
namespace SG
open PySem PySem.Spec L2 DL LC SP SZ
/-- neighbours have different signs -/
def Alt : List Prt → Prop
  | a :: b :: r => a.2.2 ≠ b.2.2 ∧ Alt (b :: r)
  | _ => True
theorem Alt.tail {a : Prt} {r : List Prt} (h : Alt (a :: r)) : Alt r := by
  cases r with
  | nil => trivial
  | cons b r => exact h.2
theorem Alt.last : ∀ (init : List Prt) {l l' : Prt}, Alt (init ++ [l]) → l.2.2 = l'.2.2 → Alt (init ++ [l'])
  | [], _, _, _, _ => trivial
  | [a], l, l', h, e => ⟨e ▸ h.1, trivial⟩
  | a :: b :: r, l, l', h, e => ⟨h.1, Alt.last (b :: r) h.2 e⟩
theorem Alt.more : ∀ (init : List Prt) {l x : Prt}, Alt (init ++ [l]) → l.2.2 ≠ x.2.2 → Alt (init ++ [l] ++ [x])
  | [], _, _, _, e => ⟨e, trivial⟩
  | [a], l, x, h, e => ⟨h.1, e, trivial⟩
  | a :: b :: r, l, x, h, e => ⟨h.1, Alt.more (b :: r) h.2 e⟩
theorem Alt.jst {acc : List Prt} (h : Alt acc) (x : Prt) : Alt (jst acc x) := by
  rcases List.eq_nil_or_concat acc with rfl | ⟨init, l, rfl⟩
  · trivial
  · rw [List.concat_eq_append] at h ⊢
    rw [jst_app]
    split
    · rename_i e
      exact h.last init e
    · rename_i e
      exact h.more init e
theorem Alt.fold : ∀ (ps : List Prt) {acc : List Prt}, Alt acc → Alt (ps.foldl SG.jst acc)
  | [], _, h => h
  | x :: ps, _, h => Alt.fold ps (h.jst x)
theorem Jd.alt {ps : List Prt} (h : Jd ps) : Alt ps := by
  obtain ⟨cs, rfl⟩ := h
  exact Alt.fold cs trivial
section
variable {f : Int → Int} {B B' : Int → Prop} {e : Option Int}
theorem Ch.head {lo : Int} {ps : List Prt} (c : Ch f B e lo ps) : ∃ h r, ps = (lo, h, sgn (f lo)) :: r := by
  cases c with
  | last h1 h2 h3 => exact ⟨_, _, by rw [h3 lo (by omega) h1]⟩
  | cons h1 h2 h3 h4 d => exact ⟨_, _, by rw [h4 lo (by omega) h1]⟩
/-- the chain is told by the function -/
theorem Ch.uniq {lo : Int} {ps : List Prt} (c : Ch f B e lo ps) (a : Alt ps) : ∀ {qs : List Prt}, Ch f B' e lo qs → Alt qs → ps = qs := by
  induction c with
  | @last lo s h1 h2 h3 =>
    intro qs d b
    cases d with
    | last k1 k2 k3 => rw [← h3 lo (by omega) h1, ← k3 lo (by omega) h1]
    | @cons _ h _ r k1 k2 k3 k4 k5 =>
      exfalso
      obtain ⟨z, r', rfl⟩ := k5.head
      have le := k5.le
      have := h3 (h + 1) (by omega) le
      have k := k4 lo (by omega) k1
      rw [h3 lo (by omega) h1] at k
      exact b.1 (by show _ = sgn _; rw [this]; exact k.symm)
  | @cons lo h s r h1 h2 h3 h4 h5 ih =>
    intro qs d b
    have es := h4 lo (by omega) h1
    cases d with
    | @last _ s' k1 k2 k3 =>
      exfalso
      obtain ⟨z, r', rfl⟩ := h5.head
      have le := h5.le
      have := k3 (h + 1) (by omega) le
      have k := k3 lo (by omega) k1
      rw [es] at k
      exact a.1 (by show _ = sgn _; rw [this]; exact k)
    | @cons _ h' s' r' k1 k2 k3 k4 k5 =>
      have e1 : s = s' := by rw [← es]; exact k4 lo (by omega) k1
      subst e1
      have e2 : h = h' := by
        rcases Int.lt_trichotomy h h' with q | q | q
        · exfalso
          obtain ⟨z, r2, rfl⟩ := h5.head
          have := k4 (h + 1) (by omega) (by show h + 1 ≤ h'; omega)
          exact a.1 (by show _ = sgn _; rw [this])
        · exact q
        · exfalso
          obtain ⟨z, r2, rfl⟩ := k5.head
          have := h4 (h' + 1) (by omega) (by show h' + 1 ≤ h; omega)
          exact b.1 (by show _ = sgn _; rw [this])
      subst e2
      rw [ih a.tail k5 b.tail]
end
noncomputable section
def m_joinedO : MS := (mSeq (mN (mOwn 1 (mLst mNil)))
  (mSeq (mN (mFor (mIt (mVar 0)) (gTp 3 (gsCons (gNm 2) (gsCons (gNm 3) (gsCons (gNm 4) gsNil)))) jBody)) (mRetT 1)))
def f_joinedO : Fn := fnM 5 m_joinedO
def sBodyO (fc fj : Fn) : MS := mSeq (mOwn 5 (mLc2 (mIt (mVar 3)) g678 mYes (sIt fc) (gNm 9) mYes (mVar 9) [6, 7, 8, 9] [9])) (mOwn 3 (mCallF fj (mCons (mVar 5) mNil)))
def m_signsO : MS := (mSeq (mN (mOwn 3 (mLst (mCons (mTup (mCons (mVar 1) (mCons (mVar 2) (mCons (mC (.int 0)) mNil)))) mNil))))
  (mSeq (mN (mFor (mRng rng3 (mCons (mBin iSub (mUn fLen (mLook 0)) (mC (.int 1))) (mCons (mUn iNeg (mC (.int 1))) (mCons (mUn iNeg (mC (.int 1))) mNil)))) (gNm 4) (sBodyO f_cut_by_sign f_joinedO))) (mRetT 3)))
def f_signsO : Fn := fnM 10 m_signsO
end
theorem mN_nx {m : MS} {s s' : S} (h : m s = .ok .nx s') : mN m s = .ok .nx s' := by simp [mN, h]
theorem jo_genO {L : MS} {d : D} {out : List D} {a b c : Slot} {st : List Ob} (h : L ⟨[.imm d, .own [], .emp, .emp, .emp], st⟩ = .ok .nx ⟨[.imm d, .own out, a, b, c], st⟩) : fnM 5 (mSeq (mN (mOwn 1 (mLst mNil))) (mSeq (mN L) (mRetT 1))) [d] st = .ok (.lst out) st := by
  have a1 : mOwn 1 (mLst mNil) ⟨slots 5 [d], st⟩ = .ok .nx ⟨[.imm d, .own [], .emp, .emp, .emp], st⟩ := by simp [slots, mOwn, mLst, mNil, bnd, DL.ret, few, S.put]
  unfold fnM
  rw [seq_nx (mN_nx a1), seq_nx (mN_nx h)]
  simp [mRetT, endR, S.put]
theorem jo_eqO {ps : List Prt} {st : List Ob} (h : ps.length ≤ 900) : f_joinedO [.lst (ps.map pD)] st = .ok (.lst ((ps.foldl jst []).map pD)) st := by
  obtain ⟨a, b, c, e⟩ := jo_loop (d := .lst (ps.map pD)) (st := st) ps [] .emp .emp .emp (by simpa using h)
  have e2 := for_of (it := mIt (mVar 0)) (s := ⟨[.imm (.lst (ps.map pD)), .own [], .emp, .emp, .emp], st⟩) (s1 := ⟨[.imm (.lst (ps.map pD)), .own [], .emp, .emp, .emp], st⟩) (ds := ps.map pD) (by simp [mIt, mVar, bnd, itD]) e
  exact jo_genO e2
theorem s_joinO {fj : Fn} {d : D} {lo k : Int} {e : Option Int} {p3 : Slot} {l z : List D} {st : List Ob} (h : fj [.lst l] st = .ok (.lst z) st) : mOwn 3 (mCallF fj (mCons (mVar 5) mNil)) (sS d lo e p3 (.imm (.int k)) (.own l) st) = .ok .nx (sS d lo e (.own z) (.imm (.int k)) (.imm (.lst l)) st) := by
  simp [mOwn, mCallF, mCons, mNil, mVar, bnd, DL.ret, h, outL, S.put]
theorem s_loopO {d : D} {r : List Int} {lo : Int} {e : Option Int} {st : List Ob} (hd : RowD d r) (hr : r.length ≤ 5) (ha : ∀ a ∈ r, sm 1200 a) (he : ∀ h, e = some h → sm 300 h) : ∀ (m j : Nat) (ps : List Prt) (p4 p5 : Slot), j + m = r.length → Ch (rv (r.drop m)) (sm (mb j)) e lo ps → ps.length ≤ 3 ^ j → Jd ps → (∀ x, p5 ≠ .xn x) →
    ∃ (qs : List Prt) (p4' p5' : Slot), fo (gNm 4) (sBodyO f_cut_by_sign f_joinedO) (stepsD ((m : Int) - 1) (-1) m) (sS d lo e (.own (ps.map pD)) p4 p5 st) = .ok .nx (sS d lo e (.own (qs.map pD)) p4' p5' st) ∧ Ch (rv r) (sm (mb r.length)) e lo qs ∧ qs.length ≤ 243 ∧ Jd qs
  | 0, j, ps, p4, p5, hj, hc, hl, hJ, h5 => by
    have ej : j = r.length := by omega
    subst ej
    refine ⟨ps, p4, p5, by simp [stepsD, fo, DL.ret], hc, Nat.le_trans hl ?_, hJ⟩
    exact Nat.pow_le_pow_right (by decide) (show r.length ≤ 5 by omega)
  | m + 1, j, ps, p4, p5, hj, hc, hl, hJ, h5 => by
    have mr : m < r.length := by omega
    obtain ⟨a, ea, am⟩ := drop_pred mr
    have hb : (3 ^ j : Nat) ≤ 81 := Nat.pow_le_pow_right (by decide) (show j ≤ 4 by omega)
    have hall : ∀ x ∈ a :: r.drop (m + 1), sm 1200 x := fun x hx => ha x (by rw [← ea] at hx; exact List.mem_of_mem_drop hx)
    have hC := cutAt_ok (r := r.drop (m + 1)) (a := a) (st := st) (j := j) (by omega) (by rw [← ea, List.length_drop]; omega) hall
    rw [← ea] at hC
    have hx : noX (sS d lo e (.imm (.lst (ps.map pD))) (.imm (.int (m : Int))) p5 st) = true := by
      cases p5 with
      | xn x => exact (h5 x rfl).elim
      | _ => rfl
    obtain ⟨qs, e1, e2, e3⟩ := cuts hx (hd.cut m mr) hC (mb_mono (by omega)) (fun h q => sm_mono (he h q) (mb_300 j (by omega))) hc [] (by simp; omega)
    have b1 := s_lc (p3 := .own (ps.map pD)) (.inl rfl) h5 e1
    rw [List.nil_append] at b1
    have b2 := s_joinO (fj := f_joinedO) (d := d) (lo := lo) (k := (m : Int)) (e := e) (p3 := .imm (.lst (ps.map pD))) (st := st) (jo_eqO (ps := qs) (st := st) (by omega))
    obtain ⟨rs, q4, q5, f1, f2⟩ := s_loopO (p4 := .imm (.int (m : Int))) hd hr ha he m (j + 1) (qs.foldl jst []) (.imm (.lst (qs.map pD))) (by omega) e2.joined (by
      have := jn_len qs []
      rw [Nat.pow_succ]
      simp at this
      omega) ⟨qs, rfl⟩ (by intro x h; cases h)
    refine ⟨rs, q4, q5, ?_, f2⟩
    rw [show ((m + 1 : Nat) : Int) - 1 = (m : Int) by omega, steps_cons, fo_step (l := [(4, .int (m : Int))]) rfl (s2 := sS d lo e (.own ((qs.foldl jst []).map pD)) (.imm (.int (m : Int))) (.imm (.lst (qs.map pD))) st) ?_]
    · rw [show (m : Int) + -1 = (m : Int) - 1 by omega]
      exact f1
    · show sBodyO f_cut_by_sign f_joinedO (sS d lo e (.own (ps.map pD)) (.imm (.int (m : Int))) p5 st) = _
      unfold sBodyO
      rw [seq_nx b1, b2]
theorem so_genO {L : MS} {d : D} {lo : Int} {e : Option Int} {out : List D} {p4 p5 : Slot} {st : List Ob} (h : L (sS d lo e (.own [pD (lo, e, 0)]) .emp .emp st) = .ok .nx (sS d lo e (.own out) p4 p5 st)) : fnM 10 (mSeq (mN (mOwn 3 (mLst (mCons (mTup (mCons (mVar 1) (mCons (mVar 2) (mCons (mC (.int 0)) mNil)))) mNil)))) (mSeq (mN L) (mRetT 3))) [d, .int lo, oD e] st = .ok (.lst out) st := by
  have a1 : mOwn 3 (mLst (mCons (mTup (mCons (mVar 1) (mCons (mVar 2) (mCons (mC (.int 0)) mNil)))) mNil)) ⟨slots 10 [d, .int lo, oD e], st⟩ = .ok .nx (sS d lo e (.own [pD (lo, e, 0)]) .emp .emp st) := by simp [slots, mOwn, mLst, mTup, mCons, mNil, mVar, mC, bnd, DL.ret, few, S.put, pD]
  unfold fnM
  rw [seq_nx (mN_nx a1), seq_nx (mN_nx h)]
  simp [mRetT, endR, S.put]
/-- the signs of a row: told by the row's values alone -/
theorem signs_eq {d : D} {r : List Int} {lo : Int} {e : Option Int} {st : List Ob} {ps : List Prt} (hd : RowD d r) (hr : r.length ≤ 5) (ha : ∀ a ∈ r, sm 1200 a) (hl : leO lo e) (s1 : sm 300 lo) (he : ∀ h, e = some h → sm 300 h) (hc : Ch (rv r) (fun _ => True) e lo ps) (hA : Alt ps) :
    f_signsO [d, .int lo, oD e] st = .ok (.lst (ps.map pD)) st := by
  have c0 : Ch (rv (r.drop r.length)) (sm (mb 0)) e lo [(lo, e, 0)] := .last hl s1 fun n _ _ => by rw [List.drop_length]; rfl
  obtain ⟨qs, p4, p5, e1, e3, e4, e5⟩ := s_loopO (p4 := .emp) hd hr ha he r.length 0 [(lo, e, 0)] .emp (by omega) c0 (by simp) ⟨[(lo, e, 0)], rfl⟩ (by intro x h; cases h)
  rw [hc.uniq hA e3 e5.alt]
  exact so_genO (for_of (so_it hd.len (rng3_down hr)) e1)
end SG
namespace RF
open PySem PySem.Spec L2 DL
noncomputable section
abbrev LL : List Str := ["BadValue", "NotExact", "EmptySpan", "NoBound"]
def m_joined_signs : MS := (mSeq (mN (mOwn 1 (mLst mNil)))
  (mSeq (mN (mFor (mIt (mVar 0)) (gTp 3 (gsCons (gNm 2) (gsCons (gNm 3) (gsCons (gNm 4) gsNil)))) (mIfS (mAndT (mBl (mBin iGt (mUn fLen (mLook 1)) (mC (.int 0)))) (mBl (mBin fEq (mBin ixD (mIxN 1 (mUn iNeg (mC (.int 1)))) (mC (.int 2))) (mVar 4)))) (mSetIx 1 (mUn iNeg (mC (.int 1))) (mTup (mCons (mBin ixD (mIxN 1 (mUn iNeg (mC (.int 1)))) (mC (.int 0))) (mCons (mVar 3) (mCons (mVar 4) mNil))))) (mExpr (mApp 1 (mTup (mCons (mVar 2) (mCons (mVar 3) (mCons (mVar 4) mNil)))))))))
  (mRetT 1)))
def f_joined_signs : Fn := fnM 5 m_joined_signs
abbrev f_row_value : Fn := LC.f_row_value
abbrev f_cut_by_sign : Fn := LC.f_cut_by_sign
def m_signs_of : MS := (mSeq (mN (mOwn 3 (mLst (mCons (mTup (mCons (mVar 1) (mCons (mVar 2) (mCons (mC (.int 0)) mNil)))) mNil))))
  (mSeq (mN (mFor (mRng rng3 (mCons (mBin iSub (mUn fLen (mLook 0)) (mC (.int 1))) (mCons (mUn iNeg (mC (.int 1))) (mCons (mUn iNeg (mC (.int 1))) mNil)))) (gNm 4) (mSeq (mOwn 5 (mLc2 (mIt (mVar 3)) (gTp 3 (gsCons (gNm 6) (gsCons (gNm 7) (gsCons (gNm 8) gsNil)))) mYes (mIt (mCall f_cut_by_sign (mCons (mSlN 0 (mPart (mVar 4)) mNoP) (mCons (mVar 6) (mCons (mVar 7) (mCons (mVar 8) mNil)))))) (gNm 9) mYes (mVar 9) [6, 7, 8, 9] [9]))
  (mOwn 3 (mCallF f_joined_signs (mCons (mVar 5) mNil))))))
  (mRetT 3)))
def f_signs_of : Fn := fnM 10 m_signs_of
abbrev f_is_whole : Fn := LC.f_is_whole
def m_Size_signs : MS := (mSeq (mN (mIfS (mOrT (mNotT (mTru (mCall f_is_whole (mCons (mVar 1) mNil)))) (mBl (mBin iLt (mVar 1) (mC (.int 0))))) (mRaiseN "BadValue" ["shown"] (mCons (mVar 1) mNil)) mPass))
  (mSeq (mN (mIfS (mAndT (mBl (mBin fNotN (mVar 2) (mC .non))) (mOrT (mNotT (mTru (mCall f_is_whole (mCons (mVar 2) mNil)))) (mBl (mBin iLt (mVar 2) (mVar 1))))) (mRaiseN "BadValue" ["shown"] (mCons (mVar 2) mNil)) mPass))
  (mRet (mFz (mCallF f_signs_of (mCons (mFld "Size" "row" (mVar 0)) (mCons (mVar 1) (mCons (mVar 2) mNil))))))))
def f_Size_signs : Fn := fnM 3 m_Size_signs
abbrev f_row_moved : Fn := LC.f_row_moved
abbrev m_whole_list : MS := LC.m_whole_list
abbrev f_whole_list : Fn := LC.f_whole_list
abbrev f_Size___init__ : Fn := SX.f_Size___init__
abbrev f_Size___rshift__ : Fn := SX.f_Size___rshift__
abbrev f__law_cut : Fn := LC.f__law_cut
abbrev f__law_size_is : Fn := LC.f__law_size_is
abbrev f_Size___floordiv__ : Fn := SX.f_Size___floordiv__
abbrev f__law_draw : Fn := LC.f__law_draw
abbrev f__law_pick : Fn := LC.f__law_pick
def m__law_odd : MS := (mRet (mCall f__law_pick (mCons (mVar 0) (mCons (mFz (mLst (mCons (mC (.bl true)) (mCons (mC (.bl false)) (mCons (mC .non) (mCons (mC (.str "4")) (mCons (mC (.str "")) (mCons (mTup (mCons (mC (.int 3)) mNil)) (mCons (mFz (mLst mNil)) (mCons (mTup mNil) (mCons (mFz (mLst (mCons (mC (.int 0)) (mCons (mC (.int 1)) mNil)))) mNil))))))))))) mNil))))
def f__law_odd : Fn := fnM 1 m__law_odd
abbrev f__law_row : Fn := LC.f__law_row
def m__law_odd_row : MS := (mSeq (mSet 1 (mCall f__law_pick (mCons (mVar 0) (mCons (mFz (mLst (mCons (mC (.bl true)) (mCons (mC .non) (mCons (mC (.str "1")) (mCons (mTup (mCons (mC (.int 1)) mNil)) (mCons (mFz (mLst mNil)) mNil))))))) mNil))))
  (mSeq (mSet 2 (mCall f__law_row (mCons (mVar 0) (mCons (mC (.int 4)) mNil))))
  (mSeq (mSet 3 (mCall f__law_draw (mCons (mVar 0) (mCons (mBin fAdd (mUn fLen (mLook 2)) (mC (.int 1))) mNil))))
  (mSeq (mOwn 4 (mBinF lAddL (mFz (mBinF lAddL (mSlN 2 mNoP (mPart (mVar 3))) (mFz (mLst (mCons (mVar 1) mNil))))) (mSlN 2 (mPart (mVar 3)) mNoP)))
  (mRet (mCall f__law_pick (mCons (mVar 0) (mCons (mFz (mLst (mCons (mC .non) (mCons (mC (.int 7)) (mCons (mC (.str "12")) (mCons (mC (.bl false)) (mCons (mVar 4) (mCons (mVar 4) (mCons (mUn fTuple (mLook 4)) mNil))))))))) mNil))))))))
def f__law_odd_row : Fn := fnM 5 m__law_odd_row
abbrev f__law_far : Fn := LC.f__law_far
def m__law_cases (lam : Nat → Lam) (cl : List (Str × Addr)) : ME := (mBodyC (mAsg (gTL 2 (gsCons (gNm 2) (gsCons (gNm 3) gsNil))) (mTup (mCons (mCall f__law_odd (mCons (mVar 0) mNil)) (mCons (mCall f__law_odd_row (mCons (mVar 0) mNil)) mNil))))
  (mBodyC (mAsg (gTL 2 (gsCons (gNm 4) (gsCons (gNm 5) gsNil))) (mTup (mCons (mBin iSub (mUn iNeg (mC (.int 1))) (mCall f__law_far (mCons (mVar 0) mNil))) (mCons (mBin fAdd (mC (.int 1)) (mCall f__law_far (mCons (mVar 0) mNil))) mNil))))
  (mBodyC (mSet 6 (mCall f__law_pick (mCons (mVar 0) (mCons (mFz (mLst (mCons (mC (.bl true)) (mCons (mC (.str "4")) (mCons (mTup (mCons (mC (.int 3)) mNil)) (mCons (mBin iSub (mVar 5) (mC (.int 1))) (mCons (mUn iNeg (mVar 5)) mNil))))))) mNil))))
  (mFz (mLst (mCons (mTup (mCons (mLamF (lam 0) cl) (mCons (mVar 3) mNil))) (mCons (mTup (mCons (mLamF (lam 1) cl) (mCons (mVar 2) mNil))) (mCons (mTup (mCons (mLamF (lam 2) cl) (mCons (mVar 3) mNil))) (mCons (mTup (mCons (mLamF (lam 3) cl) (mCons (mVar 4) mNil))) (mCons (mTup (mCons (mLamF (lam 4) cl) (mCons (mVar 2) mNil))) (mCons (mTup (mCons (mLamF (lam 5) cl) (mCons (mVar 2) mNil))) (mCons (mTup (mCons (mLamF (lam 6) cl) (mCons (mVar 4) mNil))) (mCons (mTup (mCons (mLamF (lam 7) cl) (mCons (mVar 2) mNil))) (mCons (mTup (mCons (mLamF (lam 8) cl) (mCons (mC (.int 0)) mNil))) (mCons (mTup (mCons (mLamF (lam 9) cl) (mCons (mVar 2) mNil))) (mCons (mTup (mCons (mLamF (lam 10) cl) (mCons (mVar 2) mNil))) (mCons (mTup (mCons (mLamF (lam 11) cl) (mCons (mVar 2) mNil))) (mCons (mTup (mCons (mLamF (lam 12) cl) (mCons (mVar 4) mNil))) (mCons (mTup (mCons (mLamF (lam 13) cl) (mCons (mVar 4) mNil))) (mCons (mTup (mCons (mLamF (lam 14) cl) (mCons (mVar 2) mNil))) (mCons (mTup (mCons (mLamF (lam 15) cl) (mCons (mVar 6) mNil))) (mCons (mTup (mCons (mLamF (lam 16) cl) (mCons (mVar 4) mNil))) (mCons (mTup (mCons (mLamF (lam 17) cl) (mCons (mVar 2) mNil))) mNil)))))))))))))))))))))))
def f__law_cases (lam : Nat → Lam) : Fn := fnClo ["_law_pen_here", "_law_size", "_law_odd_here", "_law_wrong", "_law_low", "_law_n", "_law_text"] ["_law_size", "_law_odd_here", "_law_wrong", "_law_low", "_law_n", "_law_text"] (m__law_cases lam)
def m__law_alike (r : Fn) : MS := (mSeq (mIfS (mOrT (mBl (mBin fNe (mUn (fIsi "bool") (mLook 0)) (mUn (fIsi "bool") (mLook 1)))) (mBl (mBin fNe (mUn (fIsi "list") (mLook 0)) (mUn (fIsi "list") (mLook 1))))) (mRet (mC (.bl false))) mPass)
  (mSeq (mIfS (mAndT (mTru (mUn (fIsiA ["list", "tuple"]) (mVar 1))) (mAndT (mTru (mUn (fIsiA ["list", "tuple"]) (mVar 0))) (mBl (mBin fEq (mUn fLen (mLook 0)) (mUn fLen (mLook 1)))))) (mRet (mUn fAll (mFz (mLc (mZipB (mCons (mVar 0) (mCons (mVar 1) mNil))) (gTp 2 (gsCons (gNm 2) (gsCons (gNm 3) gsNil))) mYes (mCall r (mCons (mVar 2) (mCons (mVar 3) mNil))) [2, 3])))) mPass)
  (mRet (mBin fEq (mVar 0) (mVar 1)))))
def f__law_alike : Nat → Fn
  | 0 => fStuck
  | n + 1 => fnM 4 (m__law_alike (f__law_alike n))
abbrev f_differences : Fn := LC.f_differences
def m_Size_through : MS := (mSeq (mIfS (mNotT (mTru (mCall f_is_whole (mCons (mVar 1) mNil)))) (mRaiseN "BadValue" ["shown"] (mCons (mVar 1) mNil)) mPass)
  (mSeq (mIfS (mNotT (mTru (mCall f_whole_list (mCons (mVar 2) mNil)))) (mRaiseN "BadValue" ["shown"] (mCons (mVar 2) mNil)) mPass)
  (mRet (mCls 0 "Size" f_Size___init__ (mCons (mCall f_row_moved (mCons (mCall f_differences (mCons (mVar 2) mNil)) (mCons (mUn iNeg (mVar 1)) mNil))) mNil)))))
def f_Size_through : Fn := fnM 3 m_Size_through
abbrev f_falling_row : Fn := LC.f_falling_row
def m_Size_falling : MS := (mSeq (mIfS (mOrT (mNotT (mTru (mCall f_is_whole (mCons (mVar 0) mNil)))) (mBl (mBin iLt (mVar 0) (mC (.int 0))))) (mRaiseN "BadValue" ["shown"] (mCons (mVar 0) mNil)) mPass)
  (mSeq (mIfS (mNotT (mTru (mCall f_is_whole (mCons (mVar 1) mNil)))) (mRaiseN "BadValue" ["shown"] (mCons (mVar 1) mNil)) mPass)
  (mRet (mMake "Size" f_Size___init__ (mCons (mCall f_falling_row (mCons (mVar 0) (mCons (mVar 1) mNil))) mNil)))))
def f_Size_falling : Fn := fnM 2 m_Size_falling
def m_Size___call__ : MS := (mSeq (mIfS (mNotT (mTru (mCall f_is_whole (mCons (mVar 1) mNil)))) (mRaiseN "BadValue" ["shown"] (mCons (mVar 1) mNil)) mPass)
  (mRet (mCall f_row_value (mCons (mFld "Size" "row" (mVar 0)) (mCons (mVar 1) mNil)))))
def f_Size___call__ : Fn := fnM 2 m_Size___call__
abbrev f_Size___lshift__ : Fn := SX.f_Size___lshift__
abbrev f_whole_row : Fn := LC.f_whole_row
abbrev f_take_rows : Fn := LC.f_take_rows
def m_Size_least_from : MS := (mSeq (mIfS (mNotT (mTru (mCall f_is_whole (mCons (mVar 1) mNil)))) (mRaiseN "BadValue" ["shown"] (mCons (mVar 1) mNil)) mPass)
  (mSeq (mSet 2 (mCall f_signs_of (mCons (mCall f_take_rows (mCons (mFld "Size" "row" (mVar 0)) (mCons (mCall f_whole_row (mCons (mVar 1) mNil)) mNil))) (mCons (mC (.int 0)) (mCons (mC .non) mNil)))))
  (mSeq (mIfS (mBl (mBin iLt (mBin ixD (mIxN 2 (mUn iNeg (mC (.int 1)))) (mC (.int 2))) (mC (.int 0)))) (mRet (mC .non)) mPass)
  (mSeq (mSet 3 (mC (.int 0)))
  (mSeq (mFor (mIt (mVar 2)) (gTp 3 (gsCons (gNm 4) (gsCons (gNm 5) (gsCons (gNm 6) gsNil)))) (mIfS (mBl (mBin iLt (mVar 6) (mC (.int 0)))) (mSet 3 (mBin fAdd (mVar 5) (mC (.int 1)))) mPass))
  (mRet (mVar 3)))))))
def f_Size_least_from : Fn := fnM 7 m_Size_least_from
def tab__law_cases (lam : Nat → Lam) : LamT := [(lam 0, (mMake "Size" f_Size___init__ (mCons (mVar 0) mNil))),
  (lam 1, (mCMx "Size" f_Size_through (mCons (mVar 0) (mCons (mVar 1) mNil)))),
  (lam 2, (mCMx "Size" f_Size_through (mCons (mVar 0) (mCons (mVar 1) mNil)))),
  (lam 3, (mSMx f_Size_falling [.int 0] (mCons (mVar 0) mNil))),
  (lam 4, (mSMx f_Size_falling [] (mCons (mVar 0) (mCons (mVar 0) mNil)))),
  (lam 5, (mSMx f_Size_falling [] (mCons (mC (.int 2)) (mCons (mVar 0) mNil)))),
  (lam 6, (mSMx f_Size_falling [] (mCons (mVar 0) (mCons (mVar 1) mNil)))),
  (lam 7, (mCallOx "Size" f_Size___call__ (mVar 1) (mCons (mVar 0) mNil))),
  (lam 8, (mOpAn "Size" f_Size___floordiv__ (mVar 0) (mC (.int 0)))),
  (lam 9, (mOpAn "Size" f_Size___floordiv__ (mVar 1) (mVar 0))),
  (lam 10, (mOpAn "Size" f_Size___rshift__ (mVar 1) (mVar 0))),
  (lam 11, (mOpAn "Size" f_Size___lshift__ (mVar 1) (mVar 0))),
  (lam 12, (mMeth "Size" "signs" f_Size_signs [.non] (mVar 1) (mCons (mVar 0) mNil))),
  (lam 13, (mMeth "Size" "signs" f_Size_signs [] (mVar 2) (mCons (mVar 0) (mCons (mVar 1) mNil)))),
  (lam 14, (mMeth "Size" "signs" f_Size_signs [.non] (mVar 1) (mCons (mVar 0) mNil))),
  (lam 15, (mMeth "Size" "signs" f_Size_signs [] (mVar 1) (mCons (mVar 0) (mCons (mVar 2) mNil)))),
  (lam 16, (mMethKw "Size" "signs" f_Size_signs 1 (fun ds es => ds ++ ([.int 0] ++ es)) (mVar 1) (mCons (mVar 0) mNil))),
  (lam 17, (mMeth "Size" "least_from" f_Size_least_from [] (mVar 1) (mCons (mVar 0) mNil)))]
def m__law_error (lam : Nat → Lam) : MS := (mSeq (mTryCl [(HKN.tabL LL "BadValue", some 1, (mRet (mIf (mAndT (mTru (mIsX (HKN.tabT LL) 1)) (mTru (mIsX (HKN.tabT LL) 1))) (mTup (mCons (mC (.str "value")) (mCons (mXf 1 "BadValue" "shown") mNil))) (mC .non)))), (HKN.tabL LL "NotExact", some 1, (mRet (mIf (mTru (mIsX (HKN.tabT LL) 1)) (mTup (mCons (mC (.str "exact")) (mCons (mXf 1 "NotExact" "by") mNil))) (mC .non)))), (HKN.tabL LL "EmptySpan", some 1, (mRet (mTup (mCons (mC (.str "empty")) (mCons (mIsX (HKN.tabT LL) 1) mNil))))), (HKN.tabL LL "NoBound", some 1, (mRet (mTup (mCons (mC (.str "bound")) (mCons (mIsX (HKN.tabT LL) 1) mNil)))))] (mExpr (mCallClo 0 (tab__law_cases lam))))
  (mRet (mC .non)))
def f__law_error (lam : Nat → Lam) : Fn := fnM 2 (m__law_error lam)
def m__law_refuses (lam : Nat → Lam) : MS := (mSeq (mSet 2 (mCall (f__law_error lam) (mCons (mVar 0) mNil)))
  (mRet (mAnd (mBin fNotN (mVar 2) (mC .non)) (mAnd (mBin fEq (mIxN 2 (mC (.int 0))) (mC (.str "value"))) (mCall (f__law_alike 8) (mCons (mIxN 2 (mC (.int 1))) (mCons (mVar 1) mNil)))))))
def f__law_refuses (lam : Nat → Lam) : Fn := fnM 3 (m__law_refuses lam)
abbrev f__law_pen : Fn := LC.f__law_pen
def m_law (lam : Nat → Lam) : MS := (mSeq (mSet 1 (mCall f__law_pen (mCons (mVar 0) mNil)))
  (mSeq (mFor (mRng rng1 (mCons (mBin fAdd (mC (.int 2)) (mMin2 (mCons (mC (.int 3)) (mCons (mUn fLen (mLook 0)) mNil)))) mNil)) (gNm 2) (mSeq (mSet 3 (mCall f__law_row (mCons (mVar 1) (mCons (mC (.int 4)) mNil))))
  (mSeq (mSet 4 (mMake "Size" f_Size___init__ (mCons (mVar 3) mNil)))
  (mSeq (mFor (mIt (mCall (f__law_cases lam) (mCons (mVar 1) (mCons (mVar 4) mNil)))) (gTp 2 (gsCons (gNm 5) (gsCons (gNm 6) gsNil))) (mIfS (mNotT (mTru (mCall (f__law_refuses lam) (mCons (mVar 5) (mCons (mVar 6) mNil))))) (mRet (mC (.bl false))) mPass))
  (mSeq (mIfS (mOrT (mNotT (mTru (mCall f__law_size_is (mCons (mVar 4) (mCons (mCall f__law_cut (mCons (mVar 3) mNil)) mNil))))) (mNotT (mTru (mCall f__law_size_is (mCons (mOpI "Size" f_Size___floordiv__ (mVar 4) (mC (.int 1))) (mCons (mCall f__law_cut (mCons (mVar 3) mNil)) mNil)))))) (mRet (mC (.bl false))) mPass)
  (mIfS (mOrT (mNotT (mTru (mCall f__law_size_is (mCons (mOpI "Size" f_Size___rshift__ (mVar 4) (mC (.int 0))) (mCons (mCall f__law_cut (mCons (mVar 3) mNil)) mNil))))) (mBl (mBin fNe (mUn fLen (mMeth "Size" "signs" f_Size_signs [] (mVar 4) (mCons (mC (.int 3)) (mCons (mC (.int 3)) mNil)))) (mC (.int 1))))) (mRet (mC (.bl false))) mPass))))))
  (mRet (mC (.bl true)))))
def f_law (lam : Nat → Lam) : Fn := fnM 7 (m_law lam)
end
end RF
namespace RF
open PySem PySem.Spec L2 DL LC SP SZ SG SX
def BV (d : D) : Exc := ⟨"BadValue", [("shown", d)]⟩
/-- no whole number -/
def NW (d : D) : Prop := ∀ st, LC.f_is_whole [d] st = .ok (.bl false) st
/-- no list of whole numbers -/
def NL (d : D) : Prop := ∀ st, LC.f_whole_list [d] st = .ok (.bl false) st
def raise (i : Nat) : MS := mRaiseN "BadValue" ["shown"] (mCons (mVar i) mNil)
theorem raise_eq {i : Nat} {d : D} {s : DL.S} (h : s.sl[i]? = some (.imm d)) : raise i s = .exc (BV d) s := by
  simp [raise, mRaiseN, mCons, mNil, mVar, h, bnd, DL.ret, BV]
theorem seq_exc {A B : MS} {s s' : DL.S} {x : Exc} (h : A s = .exc x s') : mSeq A B s = .exc x s' := by simp [mSeq, h]
/-- not is_whole(slot i): the test -/
def nw (fw : Fn) (i : Nat) : MT := mNotT (mTru (mCall fw (mCons (mVar i) mNil)))
theorem nw_eq {fw : Fn} {i : Nat} {d : D} {b : Bool} {s : DL.S} (h : s.sl[i]? = some (.imm d)) (hw : fw [d] s.st = .ok (.bl b) s.st) : nw fw i s = .ok (!b) s := by
  simp [nw, mNotT, mTru, mCall, mCons, mNil, mVar, h, bnd, DL.ret, hw, outR, tru, optB]
theorem if_t {T : MT} {A B : MS} {s s' : DL.S} (h : T s = .ok true s') : mIfS T A B s = A s' := by simp [mIfS, bnd, h]
theorem if_f {T : MT} {A B : MS} {s s' : DL.S} (h : T s = .ok false s') : mIfS T A B s = B s' := by simp [mIfS, bnd, h]
theorem or_t {A B : MT} {s s' : DL.S} (h : A s = .ok true s') : mOrT A B s = .ok true s' := by simp [mOrT, bnd, h, DL.ret]
theorem or_f {A B : MT} {s s' : DL.S} (h : A s = .ok false s') : mOrT A B s = B s' := by simp [mOrT, bnd, h]
theorem and_t {A B : MT} {s s' : DL.S} (h : A s = .ok true s') : mAndT A B s = B s' := by simp [mAndT, bnd, h]
theorem lt_eq {i : Nat} {k m : Int} {s : DL.S} (h : s.sl[i]? = some (.imm (.int k))) : mBl (mBin iLt (mVar i) (mC (.int m))) s = .ok (decide (k < m)) s := by
  simp [mBl, mBin, iLt, intF, mVar, h, mC, bnd, DL.ret, lift, optB, isBl]
theorem ltv_eq {i j : Nat} {k m : Int} {s : DL.S} (h : s.sl[i]? = some (.imm (.int k))) (h2 : s.sl[j]? = some (.imm (.int m))) : mBl (mBin iLt (mVar i) (mVar j)) s = .ok (decide (k < m)) s := by
  simp [mBl, mBin, iLt, intF, mVar, h, h2, bnd, DL.ret, lift, optB, isBl]
theorem eq0_eq {i : Nat} {k m : Int} {s : DL.S} (h : s.sl[i]? = some (.imm (.int k))) : mBl (mBin fEq (mVar i) (mC (.int m))) s = .ok (decide (k = m)) s := by
  simp [mBl, mBin, mVar, h, mC, bnd, DL.ret, lift, optB, isBl, eq_int]
theorem exc_fn {n : Nat} {m : MS} {ds : List D} {st : List Ob} {x : Exc} {s' : DL.S} (h : m ⟨slots n ds, st⟩ = .exc x s') : fnM n m ds st = .exc x s'.st := by simp [fnM, h, endR]
/-- if not is_whole(slot i): raise -/
theorem gate {fw : Fn} {i : Nat} {d : D} {R : MS} {s : DL.S} (h : s.sl[i]? = some (.imm d)) (hw : fw [d] s.st = .ok (.bl false) s.st) : mSeq (mIfS (nw fw i) (raise i) mPass) R s = .exc (BV d) s := seq_exc ((if_t (nw_eq h hw)).trans (raise_eq h))
theorem gateN {fw : Fn} {i : Nat} {d : D} {T : MT} {R : MS} {s : DL.S} (h : s.sl[i]? = some (.imm d)) (hw : fw [d] s.st = .ok (.bl false) s.st) : mSeq (mIfS (mOrT (nw fw i) T) (raise i) mPass) R s = .exc (BV d) s := seq_exc ((if_t (or_t (nw_eq h hw))).trans (raise_eq h))
theorem gateO {fw : Fn} {i : Nat} {d : D} {T : MT} {R : MS} {s : DL.S} (h : s.sl[i]? = some (.imm d)) (hw : fw [d] s.st = .ok (.bl true) s.st) (ht : T s = .ok true s) : mSeq (mIfS (mOrT (nw fw i) T) (raise i) mPass) R s = .exc (BV d) s := seq_exc ((if_t ((or_f (nw_eq h hw)).trans ht)).trans (raise_eq h))
theorem pass1 {fw : Fn} {i : Nat} {d : D} {A R : MS} {s : DL.S} (h : s.sl[i]? = some (.imm d)) (hw : fw [d] s.st = .ok (.bl true) s.st) : mSeq (mIfS (nw fw i) A mPass) R s = R s := seq_nx ((if_f (nw_eq h hw)).trans rfl)
theorem pass2 {fw : Fn} {i : Nat} {d : D} {T : MT} {A R : MS} {s : DL.S} (h : s.sl[i]? = some (.imm d)) (hw : fw [d] s.st = .ok (.bl true) s.st) (ht : T s = .ok false s) : mSeq (mIfS (mOrT (nw fw i) T) A mPass) R s = R s := seq_nx ((if_f ((or_f (nw_eq h hw)).trans ht)).trans rfl)
theorem w_int (k : Int) (st : List Ob) : LC.f_is_whole [.int k] st = .ok (.bl true) st := rfl
section
variable {st : List Ob} {i : Nat} {d o z : D} {k n : Int}
theorem init_bad (h : NL d) : f_Size___init__ [.loc i, d] st = .exc (BV d) st := exc_fn (gate (fw := f_whole_list) rfl (h st))
theorem through_bad1 (h : NW o) : f_Size_through [.cla "Size", o, d] st = .exc (BV o) st := exc_fn (gate (fw := f_is_whole) rfl (h st))
theorem through_bad2 (h : NL d) : f_Size_through [.cla "Size", .int k, d] st = .exc (BV d) st := exc_fn ((pass1 (fw := f_is_whole) rfl (w_int k st)).trans (gate (fw := f_whole_list) rfl (h st)))
theorem falling_bad1 (h : k < 0) : f_Size_falling [.int k, z] st = .exc (BV (.int k)) st := exc_fn (gateO (fw := f_is_whole) rfl (w_int k st) ((lt_eq rfl).trans (by rw [decide_eq_true h])))
theorem falling_bad2 (h : NW o) : f_Size_falling [o, z] st = .exc (BV o) st := exc_fn (gateN (fw := f_is_whole) rfl (h st))
theorem falling_bad3 (hk : 0 ≤ k) (h : NW o) : f_Size_falling [.int k, o] st = .exc (BV o) st := exc_fn ((pass2 (fw := f_is_whole) rfl (w_int k st) ((lt_eq rfl).trans (by rw [decide_eq_false (by omega)]))).trans (gate (fw := f_is_whole) rfl (h st)))
theorem call_bad (h : NW o) : f_Size___call__ [.loc i, o] st = .exc (BV o) st := exc_fn (gate (fw := f_is_whole) rfl (h st))
theorem fdiv_bad0 : f_Size___floordiv__ [.loc i, .int 0] st = .exc (BV (.int 0)) st := exc_fn (gateO (fw := f_is_whole) (i := 1) rfl (w_int 0 st) (eq0_eq (k := 0) rfl))
theorem fdiv_bad (h : NW o) : f_Size___floordiv__ [.loc i, o] st = .exc (BV o) st := exc_fn (gateN (fw := f_is_whole) rfl (h st))
theorem rsh_bad (h : NW o) : f_Size___rshift__ [.loc i, o] st = .exc (BV o) st := exc_fn (gate (fw := f_is_whole) rfl (h st))
theorem lsh_bad (h : NW o) : f_Size___lshift__ [.loc i, o] st = .exc (BV o) st := exc_fn (gate (fw := f_is_whole) rfl (h st))
theorem least_bad (h : NW o) : f_Size_least_from [.loc i, o] st = .exc (BV o) st := exc_fn (gate (fw := f_is_whole) rfl (h st))
theorem mN_exc {A : MS} {s s' : DL.S} {x : Exc} (h : A s = .exc x s') : mN A s = .exc x s' := by simp [mN, h]
theorem mN_n {A : MS} {s s' : DL.S} (h : A s = .ok .nx s') : mN A s = .ok .nx s' := by simp [mN, h]
theorem gateNm {fw : Fn} {i : Nat} {d : D} {T : MT} {R : MS} {s : DL.S} (h : s.sl[i]? = some (.imm d)) (hw : fw [d] s.st = .ok (.bl false) s.st) : mSeq (mN (mIfS (mOrT (nw fw i) T) (raise i) mPass)) R s = .exc (BV d) s := seq_exc (mN_exc ((if_t (or_t (nw_eq h hw))).trans (raise_eq h)))
theorem gateOm {fw : Fn} {i : Nat} {d : D} {T : MT} {R : MS} {s : DL.S} (h : s.sl[i]? = some (.imm d)) (hw : fw [d] s.st = .ok (.bl true) s.st) (ht : T s = .ok true s) : mSeq (mN (mIfS (mOrT (nw fw i) T) (raise i) mPass)) R s = .exc (BV d) s := seq_exc (mN_exc ((if_t ((or_f (nw_eq h hw)).trans ht)).trans (raise_eq h)))
theorem pass2m {fw : Fn} {i : Nat} {d : D} {T : MT} {A R : MS} {s : DL.S} (h : s.sl[i]? = some (.imm d)) (hw : fw [d] s.st = .ok (.bl true) s.st) (ht : T s = .ok false s) : mSeq (mN (mIfS (mOrT (nw fw i) T) A mPass)) R s = R s := seq_nx (mN_n ((if_f ((or_f (nw_eq h hw)).trans ht)).trans rfl))
theorem gateN2 {fw : Fn} {i : Nat} {d : D} {N T : MT} {R : MS} {s : DL.S} (hN : N s = .ok true s) (h : s.sl[i]? = some (.imm d)) (hw : fw [d] s.st = .ok (.bl false) s.st) : mSeq (mN (mIfS (mAndT N (mOrT (nw fw i) T)) (raise i) mPass)) R s = .exc (BV d) s := seq_exc (mN_exc ((if_t ((and_t hN).trans (or_t (nw_eq h hw)))).trans (raise_eq h)))
theorem gateO2 {fw : Fn} {i : Nat} {d : D} {N T : MT} {R : MS} {s : DL.S} (hN : N s = .ok true s) (h : s.sl[i]? = some (.imm d)) (hw : fw [d] s.st = .ok (.bl true) s.st) (ht : T s = .ok true s) : mSeq (mN (mIfS (mAndT N (mOrT (nw fw i) T)) (raise i) mPass)) R s = .exc (BV d) s := seq_exc (mN_exc ((if_t ((and_t hN).trans ((or_f (nw_eq h hw)).trans ht))).trans (raise_eq h)))
theorem pass3 {fw : Fn} {i : Nat} {d : D} {N T : MT} {A R : MS} {s : DL.S} (hN : N s = .ok true s) (h : s.sl[i]? = some (.imm d)) (hw : fw [d] s.st = .ok (.bl true) s.st) (ht : T s = .ok false s) : mSeq (mN (mIfS (mAndT N (mOrT (nw fw i) T)) A mPass)) R s = R s := seq_nx (mN_n ((if_f ((and_t hN).trans ((or_f (nw_eq h hw)).trans ht))).trans rfl))
theorem notN_eq {i : Nat} {d : D} {b : Bool} {s : DL.S} (h : s.sl[i]? = some (.imm d)) (hb : DL.isNon d = !b) : mBl (mBin fNotN (mVar i) (mC .non)) s = .ok b s := by
  cases d <;> cases b <;> simp_all [mBl, mBin, mVar, mC, bnd, DL.ret, lift, fNotN, DL.isNon, optB, isBl]
theorem ltT {i : Nat} {k m : Int} {s : DL.S} (h : s.sl[i]? = some (.imm (.int k))) (q : k < m) : mBl (mBin iLt (mVar i) (mC (.int m))) s = .ok true s := (lt_eq h).trans (by rw [decide_eq_true q])
theorem ltF {i : Nat} {k m : Int} {s : DL.S} (h : s.sl[i]? = some (.imm (.int k))) (q : ¬ k < m) : mBl (mBin iLt (mVar i) (mC (.int m))) s = .ok false s := (lt_eq h).trans (by rw [decide_eq_false q])
theorem signs_bad1 (h : k < 0) : f_Size_signs [.loc i, .int k, z] st = .exc (BV (.int k)) st := exc_fn (gateOm (fw := f_is_whole) (i := 1) rfl (w_int k st) (ltT rfl h))
theorem signs_bad2 (h : NW o) : f_Size_signs [.loc i, o, z] st = .exc (BV o) st := exc_fn (gateNm (fw := f_is_whole) (i := 1) rfl (h st))
theorem signs_bad3 (hn : 0 ≤ n) (hz : DL.isNon o = false) (h : NW o) : f_Size_signs [.loc i, .int n, o] st = .exc (BV o) st :=
  exc_fn ((pass2m (fw := f_is_whole) (i := 1) rfl (w_int n st) (ltF rfl (by omega))).trans (gateN2 (fw := f_is_whole) (i := 2) (notN_eq (b := true) rfl (by rw [hz]; rfl)) rfl (h st)))
theorem signs_bad4 (hn : 0 ≤ n) (hk : k < n) : f_Size_signs [.loc i, .int n, .int k] st = .exc (BV (.int k)) st :=
  exc_fn ((pass2m (fw := f_is_whole) (i := 1) rfl (w_int n st) (ltF rfl (by omega))).trans (gateO2 (fw := f_is_whole) (i := 2) (notN_eq (b := true) rfl rfl) rfl (w_int k st) ((ltv_eq (i := 2) (j := 1) rfl rfl).trans (by rw [decide_eq_true hk]))))
end
end RF
namespace RF
open PySem PySem.Spec L2 DL LC SP SZ SG SX
/-- of one piece -/
def atom : D → Bool
  | .non => true | .bl _ => true | .int _ => true | .str _ => true
  | _ => false
/-- alike with itself, n levels deep -/
inductive Ak : Nat → D → Prop
  | at_ {n : Nat} {d : D} : atom d = true → Ak n d
  | lst {n : Nat} {ds : List D} : (∀ d ∈ ds, Ak n d) → ds.length ≤ 20 → Ak (n + 1) (.lst ds)
  | tup {n : Nat} {ds : List D} : (∀ d ∈ ds, Ak n d) → ds.length ≤ 20 → Ak (n + 1) (.tup ds)
theorem eq_atom {d : D} (h : atom d = true) : fEq d d = some (.bl true) := by
  cases d <;> first | (cases h; done) | skip
  · rfl
  · rename_i b; cases b <;> rfl
  · exact (SP.eq_int _ _).trans (by simp)
  · rename_i x
    show some (D.bl (x == x)) = _
    simp
theorem ne_bl (b : Bool) : fNe (.bl b) (.bl b) = some (.bl false) := by cases b <;> rfl
theorem nw_of {d : D} (h : match d with | .non => True | .bl _ => True | .str _ => True | .tup _ => True | .lst _ => True | _ => False) : NW d := by
  intro st
  cases d <;> first | (cases h; done) | rfl
def aS (d : D) (st : List Ob) : DL.S := ⟨[.imm d, .imm d, .emp, .emp], st⟩
theorem al_1 {d : D} {b l : Bool} {R : MS} {st : List Ob} (hb : fIsi "bool" d = some (.bl b)) (hl : fIsi "list" d = some (.bl l)) :
    mSeq (mIfS (mOrT (mBl (mBin fNe (mUn (fIsi "bool") (mLook 0)) (mUn (fIsi "bool") (mLook 1)))) (mBl (mBin fNe (mUn (fIsi "list") (mLook 0)) (mUn (fIsi "list") (mLook 1))))) (mRet (mC (.bl false))) mPass) R (aS d st) = R (aS d st) := by
  refine seq_nx ?_
  have e0 : (aS d st).sl[0]? = some (.imm d) := rfl
  have e1 : (aS d st).sl[1]? = some (.imm d) := rfl
  simp [mIfS, mOrT, mBl, mBin, mUn, mLook, cur, e0, e1, bnd, DL.ret, lift, hb, hl, ne_bl, optB, isBl, mPass]
theorem al_0 {d : D} {R : MS} {st : List Ob} (hs : fIsiA ["list", "tuple"] d = some (.bl false)) (he : fEq d d = some (.bl true)) : endR (mSeq (mIfS (mAndT (mTru (mUn (fIsiA ["list", "tuple"]) (mVar 1))) (mAndT (mTru (mUn (fIsiA ["list", "tuple"]) (mVar 0))) (mBl (mBin fEq (mUn fLen (mLook 0)) (mUn fLen (mLook 1)))))) R mPass) (mRet (mBin fEq (mVar 0) (mVar 1))) (aS d st)) = .ok (.bl true) st := by
  have e0 : (aS d st).sl[0]? = some (.imm d) := rfl
  have e1 : (aS d st).sl[1]? = some (.imm d) := rfl
  have e2 : mIfS (mAndT (mTru (mUn (fIsiA ["list", "tuple"]) (mVar 1))) (mAndT (mTru (mUn (fIsiA ["list", "tuple"]) (mVar 0))) (mBl (mBin fEq (mUn fLen (mLook 0)) (mUn fLen (mLook 1)))))) R mPass (aS d st) = .ok .nx (aS d st) := by
    simp [mIfS, mAndT, mTru, mUn, mVar, e1, bnd, DL.ret, lift, hs, tru, optB, mPass]
  rw [seq_nx e2]
  simp [mRet, mBin, mVar, e0, e1, bnd, DL.ret, lift, he, endR, aS]
theorem al_2 {d : D} {n : Int} {C : MA} {zs : List D} {R : MS} {st : List Ob} (hs : fIsiA ["list", "tuple"] d = some (.bl true)) (hl : fLen d = some (.int n)) (hC : C (aS d st) = .ok zs (aS d st)) (ha : fAll (.lst zs) = some (.bl true)) : endR (mSeq (mIfS (mAndT (mTru (mUn (fIsiA ["list", "tuple"]) (mVar 1))) (mAndT (mTru (mUn (fIsiA ["list", "tuple"]) (mVar 0))) (mBl (mBin fEq (mUn fLen (mLook 0)) (mUn fLen (mLook 1)))))) (mRet (mUn fAll (mFz C))) mPass) R (aS d st)) = .ok (.bl true) st := by
  have e0 : (aS d st).sl[0]? = some (.imm d) := rfl
  have e1 : (aS d st).sl[1]? = some (.imm d) := rfl
  have e2 : mIfS (mAndT (mTru (mUn (fIsiA ["list", "tuple"]) (mVar 1))) (mAndT (mTru (mUn (fIsiA ["list", "tuple"]) (mVar 0))) (mBl (mBin fEq (mUn fLen (mLook 0)) (mUn fLen (mLook 1)))))) (mRet (mUn fAll (mFz C))) mPass (aS d st) = .ok (.rt (.bl true)) (aS d st) := by
    simp [mIfS, mAndT, mTru, mUn, mVar, mLook, cur, e0, e1, bnd, DL.ret, lift, hs, hl, SP.eq_int, mBl, mBin, isBl, tru, optB, mRet, mFz, hC, ha]
  unfold mSeq
  rw [e2]
  rfl
theorem zipB_eq {d : D} {ds : List D} {st : List Ob} (h : d = .lst ds ∨ d = .tup ds) : mZipB (mCons (mVar 0) (mCons (mVar 1) mNil)) (aS d st) = .ok (zip2D ds ds) (aS d st) := by
  rcases h with rfl | rfl <;> simp [mZipB, mCons, mNil, mVar, aS, bnd, DL.ret, lsD, tpD, isTup, itD]
theorem zip_mem {ds : List D} : ∀ {z : D}, z ∈ zip2D ds ds → ∃ x ∈ ds, z = .tup [x, x] := by
  induction ds with
  | nil => intro z h; simp [zip2D] at h
  | cons x ds ih =>
    intro z h
    unfold zip2D at h
    rcases List.mem_cons.mp h with rfl | h
    · exact ⟨x, List.mem_cons_self, rfl⟩
    · obtain ⟨y, hy, e⟩ := ih h
      exact ⟨y, List.mem_cons_of_mem _ hy, e⟩
theorem al_lc {fr : Fn} {d : D} {ds : List D} {st : List Ob} (h : d = .lst ds ∨ d = .tup ds) (hl : ds.length ≤ 20) (hr : ∀ x ∈ ds, fr [x, x] st = .ok (.bl true) st) :
    mLc (mZipB (mCons (mVar 0) (mCons (mVar 1) mNil))) (gTp 2 (gsCons (gNm 2) (gsCons (gNm 3) gsNil))) mYes (mCall fr (mCons (mVar 2) (mCons (mVar 3) mNil))) [2, 3] (aS d st) = .ok ((zip2D ds ds).filterMap fun _ => some (.bl true)) (aS d st) := by
  refine SP.lc_gen (s := aS d st) (F := fun _ => some (.bl true)) (zipB_eq h) rfl rfl (fun z hz => ?_) (by unfold few; rw [zip2D_len]; omega)
  obtain ⟨x, hx, rfl⟩ := zip_mem hz
  refine ⟨[(2, x), (3, x)], rfl, rfl, rfl, rfl, ?_⟩
  have e := hr x hx
  have q : (aS d st).puts [(2, x), (3, x)] = ⟨[.imm d, .imm d, .imm x, .imm x], st⟩ := rfl
  simp [mCall, mCons, mNil, mVar, q, bnd, DL.ret, e, outR]
theorem all_tt (zs : List D) : fAll (.lst (zs.filterMap fun _ => some (D.bl true))) = some (.bl true) := by
  have e : (zs.filterMap fun _ => some (D.bl true)) = zs.map fun _ => D.bl true := by
    induction zs with
    | nil => rfl
    | cons z zs ih => simp [ih]
  rw [e]
  exact all_trueD zs
theorem alike_ok {n : Nat} {d : D} (h : Ak n d) : ∀ (k : Nat) (st : List Ob), n < k → f__law_alike k [d, d] st = .ok (.bl true) st := by
  induction h with
  | @at_ n d h =>
    intro k st hk
    obtain ⟨k, rfl⟩ : ∃ j, k = j + 1 := ⟨k - 1, by omega⟩
    show endR (m__law_alike _ (aS d st)) = _
    unfold m__law_alike
    have hb : ∃ b, fIsi "bool" d = some (.bl b) := by cases d <;> first | (cases h; done) | exact ⟨_, rfl⟩
    have hl : ∃ b, fIsi "list" d = some (.bl b) := by cases d <;> first | (cases h; done) | exact ⟨_, rfl⟩
    obtain ⟨b, hb⟩ := hb
    obtain ⟨l, hl⟩ := hl
    rw [al_1 hb hl]
    exact al_0 (by cases d <;> first | (cases h; done) | rfl) (eq_atom h)
  | @lst n ds h hl ih =>
    intro k st hk
    obtain ⟨k, rfl⟩ : ∃ j, k = j + 1 := ⟨k - 1, by omega⟩
    show endR (m__law_alike _ (aS (.lst ds) st)) = _
    unfold m__law_alike
    rw [al_1 (b := false) (l := true) rfl rfl]
    exact al_2 (n := ds.length) rfl (by simp [fLen, itD]) (al_lc (.inl rfl) hl fun x hx => ih x hx k st (by omega)) (all_tt _)
  | @tup n ds h hl ih =>
    intro k st hk
    obtain ⟨k, rfl⟩ : ∃ j, k = j + 1 := ⟨k - 1, by omega⟩
    show endR (m__law_alike _ (aS (.tup ds) st)) = _
    unfold m__law_alike
    rw [al_1 (b := false) (l := false) rfl rfl]
    exact al_2 (n := ds.length) rfl (by simp [fLen, itD]) (al_lc (.inr rfl) hl fun x hx => ih x hx k st (by omega)) (all_tt _)
def odds : List D := [.bl true, .bl false, .non, .str "4", .str "", .tup [.int 3], .lst [], .tup [], .lst [.int 0, .int 1]]
theorem odds_nw {d : D} (h : d ∈ odds) : NW d := by
  simp only [odds, List.mem_cons, List.not_mem_nil, or_false] at h
  rcases h with rfl | rfl | rfl | rfl | rfl | rfl | rfl | rfl | rfl <;> exact nw_of trivial
theorem odds_ak {d : D} (h : d ∈ odds) : Ak 2 d := by
  have i : ∀ k : Int, Ak 1 (.int k) := fun k => .at_ rfl
  simp only [odds, List.mem_cons, List.not_mem_nil, or_false] at h
  rcases h with rfl | rfl | rfl | rfl | rfl | rfl | rfl | rfl | rfl
  · exact .at_ rfl
  · exact .at_ rfl
  · exact .at_ rfl
  · exact .at_ rfl
  · exact .at_ rfl
  · exact .tup (fun d hd => by rw [List.mem_singleton.mp hd]; exact i 3) (by decide)
  · exact .lst (fun d hd => by cases hd) (by decide)
  · exact .tup (fun d hd => by cases hd) (by decide)
  · exact .lst (fun d hd => by
      rcases List.mem_cons.mp hd with rfl | hd
      · exact i 0
      · rw [List.mem_singleton.mp hd]; exact i 1) (by decide)
theorem od_gen {fp : Fn} {O : MA} {ds : List D} {d : D} {st st1 : List Ob} (hO : ∀ s, O s = .ok ds s) (h : fp [.loc 0, .lst ds] st = .ok d st1) : fnM 1 (mRet (mCall fp (mCons (mVar 0) (mCons (mFz O) mNil)))) [.loc 0] st = .ok d st1 := by
  show endR (mRet _ ⟨[.imm (.loc 0)], st⟩) = _
  simp [mRet, mCall, mCons, mNil, mVar, mFz, hO, bnd, DL.ret, h, outR, endR]
theorem odd_ok {B : Nat} {rs st : List Ob} (hp : PenT B rs st) (hB : B < 2 ^ 30) : ∃ d st', f__law_odd [.loc 0] st = .ok d st' ∧ d ∈ odds ∧ PenT (B + 1) rs st' := by
  obtain ⟨d, st', e, m, p⟩ := pickT (ds := odds) hp hB (by decide) (by decide)
  exact ⟨d, st', od_gen (fun s => by kernel_rfl) e, m, p⟩
end RF
namespace RF
open PySem PySem.Spec L2 DL LC SP SZ SG SX
theorem cutL_take {xs : List D} {k : Nat} : cutL xs none (some (k : Int)) = xs.take k := by
  unfold cutL
  have h1 : HT.sIx xs.length 0 none = 0 := rfl
  rw [h1, HT.sIx_nat]
  simp
theorem cutL_drop {xs : List D} {k : Nat} : cutL xs (some (k : Int)) none = xs.drop k := by
  unfold cutL
  have h2 : HT.sIx xs.length xs.length none = xs.length := rfl
  rw [HT.sIx_nat, h2, List.take_of_length_le (by rw [List.length_drop]; omega)]
  by_cases h : k ≤ xs.length
  · rw [Nat.min_eq_left h]
  · rw [Nat.min_eq_right (by omega), List.drop_of_length_le (Nat.le_refl _), List.drop_of_length_le (by omega)]
def oddv : List D := [.bl true, .non, .str "1", .tup [.int 1], .lst []]
theorem oddv_nw {d : D} (h : d ∈ oddv) : NW d := by
  simp only [oddv, List.mem_cons, List.not_mem_nil, or_false] at h
  rcases h with rfl | rfl | rfl | rfl | rfl <;> exact nw_of trivial
theorem oddv_ak {d : D} (h : d ∈ oddv) : Ak 2 d := by
  have i : ∀ k : Int, Ak 1 (.int k) := fun k => .at_ rfl
  simp only [oddv, List.mem_cons, List.not_mem_nil, or_false] at h
  rcases h with rfl | rfl | rfl | rfl | rfl
  · exact .at_ rfl
  · exact .at_ rfl
  · exact .at_ rfl
  · exact .tup (fun d hd => by rw [List.mem_singleton.mp hd]; exact i 1) (by decide)
  · exact .lst (fun d hd => by cases hd) (by decide)
/-- a row with o at k -/
def wrow (l : List Int) (o : D) (k : Nat) : List D := (l.map D.int).take k ++ [o] ++ (l.map D.int).drop k
theorem wrow_mem {l : List Int} {o x : D} {k : Nat} (h : x ∈ wrow l o k) : x = o ∨ ∃ i : Int, x = .int i := by
  unfold wrow at h
  rcases List.mem_append.mp h with h | h
  · rcases List.mem_append.mp h with h | h
    · obtain ⟨i, _, rfl⟩ := List.mem_map.mp (List.mem_of_mem_take h); exact .inr ⟨i, rfl⟩
    · exact .inl (List.mem_singleton.mp h)
  · obtain ⟨i, _, rfl⟩ := List.mem_map.mp (List.mem_of_mem_drop h); exact .inr ⟨i, rfl⟩
theorem wrow_len {l : List Int} {o : D} {k : Nat} (h : k ≤ l.length) : (wrow l o k).length = l.length + 1 := by
  unfold wrow
  simp
  omega
theorem wrow_o {l : List Int} {o : D} {k : Nat} : o ∈ wrow l o k := by simp [wrow]
theorem wrow_ak {l : List Int} {o : D} {k : Nat} (ho : o ∈ oddv) : ∀ x ∈ wrow l o k, Ak 2 x := fun x hx => by
  rcases wrow_mem hx with rfl | ⟨i, rfl⟩
  · exact oddv_ak ho
  · exact .at_ rfl
/-- whole, by the look of it -/
def isW : D → Bool
  | .int _ => true
  | _ => false
theorem all_false {ds : List D} {f : D → Bool} (h : ∃ x ∈ ds, f x = false) : fAll (.lst (ds.map fun x => .bl (f x))) = some (.bl false) := by
  have e : blsD (ds.map fun x => D.bl (f x)) = some (ds.map f) := by
    clear h
    induction ds with
    | nil => rfl
    | cons d ds ih => simp [blsD, ih]
  obtain ⟨x, hx, hf⟩ := h
  have m : false ∈ ds.map f := by rw [← hf]; exact List.mem_map_of_mem hx
  simp [fAll, e, m]
  exact ⟨x, hx, hf⟩
theorem nl_gen {d : D} {ds : List D} (hi : itD d = some ds) (ty : fIsiA ["list", "tuple"] d = some (.bl true)) (hl : ds.length ≤ 1000) (hw : ∀ x ∈ ds, ∀ st, LC.f_is_whole [x] st = .ok (.bl (isW x)) st) (ho : ∃ x ∈ ds, isW x = false) : NL d := by
  intro st
  have e := lc_map (i := 1) (f := fun z => D.bl (isW z)) (it := mIt (mVar 0)) (m := mCall LC.f_is_whole (mCons (mVar 1) mNil)) (s0 := ⟨[.imm d, .emp], st⟩) (s := ⟨[.imm d, .emp], st⟩) (ds := ds) (by simp [mIt, mVar, bnd, hi]) rfl rfl (fun z hz => by
    have := hw z hz st
    simp [mCall, mCons, mNil, mVar, bnd, DL.ret, this, outR, S.put]) (by unfold few; omega)
  have a := un_fz e (all_false ho)
  show endR (mRet _ ⟨[.imm d, .emp], st⟩) = _
  have b : mUn (fIsiA ["list", "tuple"]) (mVar 0) ⟨[.imm d, .emp], st⟩ = .ok (.bl true) ⟨[.imm d, .emp], st⟩ := by simp [mUn, mVar, bnd, ty, lift, DL.ret]
  simp only [m_whole_list, mRet, mAnd, bnd, b, optB, tru, DL.ret, if_true, a, endR]
theorem oddv_w {d : D} (h : d ∈ oddv) : isW d = false := by
  simp only [oddv, List.mem_cons, List.not_mem_nil, or_false] at h
  rcases h with rfl | rfl | rfl | rfl | rfl <;> rfl
theorem wrow_w {l : List Int} {o : D} {k : Nat} (ho : o ∈ oddv) : ∀ x ∈ wrow l o k, ∀ st, LC.f_is_whole [x] st = .ok (.bl (isW x)) st := fun x hx st => by
  rcases wrow_mem hx with rfl | ⟨i, rfl⟩
  · rw [oddv_w ho]; exact oddv_nw ho st
  · exact w_int i st
theorem nl_lst {l : List Int} {o : D} {k : Nat} (ho : o ∈ oddv) (hk : k ≤ l.length) (hl : l.length ≤ 900) : NL (.lst (wrow l o k)) := nl_gen rfl rfl (by rw [wrow_len hk]; omega) (wrow_w ho) ⟨o, wrow_o, oddv_w ho⟩
theorem nl_tup {l : List Int} {o : D} {k : Nat} (ho : o ∈ oddv) (hk : k ≤ l.length) (hl : l.length ≤ 900) : NL (.tup (wrow l o k)) := nl_gen rfl rfl (by rw [wrow_len hk]; omega) (wrow_w ho) ⟨o, wrow_o, oddv_w ho⟩
theorem nl_at {d : D} (h : match d with | .non => True | .bl _ => True | .str _ => True | .int _ => True | _ => False) : NL d := by
  intro st
  cases d <;> first | (cases h; done) | rfl
/-- what _law_odd_row picks of -/
def rows (w : List D) : List D := [.non, .int 7, .str "12", .bl false, .lst w, .lst w, .tup w]
theorem rows_ok {l : List Int} {o d : D} {k : Nat} (ho : o ∈ oddv) (hk : k ≤ l.length) (hl : l.length ≤ 10) (h : d ∈ rows (wrow l o k)) : NL d ∧ Ak 3 d := by
  have lw : (wrow l o k).length ≤ 20 := by rw [wrow_len hk]; omega
  simp only [rows, List.mem_cons, List.not_mem_nil, or_false] at h
  rcases h with rfl | rfl | rfl | rfl | rfl | rfl | rfl
  · exact ⟨nl_at trivial, .at_ rfl⟩
  · exact ⟨nl_at trivial, .at_ rfl⟩
  · exact ⟨nl_at trivial, .at_ rfl⟩
  · exact ⟨nl_at trivial, .at_ rfl⟩
  · exact ⟨nl_lst ho hk (by omega), .lst (wrow_ak ho) lw⟩
  · exact ⟨nl_lst ho hk (by omega), .lst (wrow_ak ho) lw⟩
  · exact ⟨nl_tup ho hk (by omega), .tup (wrow_ak ho) lw⟩
def oS (a b c d : Slot) (st : List Ob) : DL.S := ⟨[.imm (.loc 0), a, b, c, d], st⟩
theorem o1 {fp : Fn} {O : MA} {ds : List D} {d : D} {a b c e : Slot} {st st1 : List Ob} (hO : ∀ s, O s = .ok ds s) (h : fp [.loc 0, .lst ds] st = .ok d st1) : mSet 1 (mCall fp (mCons (mVar 0) (mCons (mFz O) mNil))) (oS a b c e st) = .ok .nx (oS (.imm d) b c e st1) := by
  simp [oS, mSet, mCall, mCons, mNil, mVar, mFz, hO, bnd, DL.ret, h, outR, S.put]
theorem o2 {fr : Fn} {x : D} {a b c e : Slot} {st st1 : List Ob} (h : fr [.loc 0, .int 4] st = .ok x st1) : mSet 2 (mCall fr (mCons (mVar 0) (mCons (mC (.int 4)) mNil))) (oS a b c e st) = .ok .nx (oS a (.imm x) c e st1) := by
  simp [oS, mSet, mCall, mCons, mNil, mVar, mC, bnd, DL.ret, h, outR, S.put]
theorem o3 {fd : Fn} {ds : List D} {x : D} {a c e : Slot} {st st1 : List Ob} (h : fd [.loc 0, .int (ds.length + 1)] st = .ok x st1) : mSet 3 (mCall fd (mCons (mVar 0) (mCons (mBin fAdd (mUn fLen (mLook 2)) (mC (.int 1))) mNil))) (oS a (.imm (.lst ds)) c e st) = .ok .nx (oS a (.imm (.lst ds)) (.imm x) e st1) := by
  simp [oS, mSet, mCall, mCons, mNil, mVar, mC, mBin, fAdd, mUn, fLen, itD, mLook, cur, lift, bnd, DL.ret, h, outR, S.put]
theorem o4 {o : D} {ds : List D} {k : Nat} {e : Slot} {st : List Ob} (hl : ds.length ≤ 900) : mOwn 4 (mBinF lAddL (mFz (mBinF lAddL (mSlN 2 mNoP (mPart (mVar 3))) (mFz (mLst (mCons (mVar 1) mNil))))) (mSlN 2 (mPart (mVar 3)) mNoP)) (oS (.imm o) (.imm (.lst ds)) (.imm (.int k)) e st) = .ok .nx (oS (.imm o) (.imm (.lst ds)) (.imm (.int k)) (.own (ds.take k ++ [o] ++ ds.drop k)) st) := by
  have c1 : cutD (.lst ds) none (some ((k : Nat) : Int)) = some (.lst (ds.take k)) := by show some (D.lst _) = _; rw [cutL_take]
  have c2 : cutD (.lst ds) (some ((k : Nat) : Int)) none = some (.lst (ds.drop k)) := by show some (D.lst _) = _; rw [cutL_drop]
  have f1 : few ((ds.take k).length + 1) := by unfold few; rw [List.length_take]; omega
  have f2 : few ((ds.take k ++ [o]).length + (ds.drop k).length) := by unfold few; simp; omega
  have g1 : lAddL (.lst (ds.take k)) (.lst [o]) = some (ds.take k ++ [o]) := by unfold lAddL; exact if_pos f1
  have g2 : lAddL (.lst (ds.take k ++ [o])) (.lst (ds.drop k)) = some (ds.take k ++ [o] ++ ds.drop k) := by unfold lAddL; exact if_pos f2
  have s1 : mSlN 2 mNoP (mPart (mVar 3)) (oS (.imm o) (.imm (.lst ds)) (.imm (.int k)) e st) = .ok (.lst (ds.take k)) (oS (.imm o) (.imm (.lst ds)) (.imm (.int k)) e st) := by
    simp [oS, mSlN, cur, mNoP, mPart, mVar, bnd, DL.ret, c1, lift]
  have s2 : mSlN 2 (mPart (mVar 3)) mNoP (oS (.imm o) (.imm (.lst ds)) (.imm (.int k)) e st) = .ok (.lst (ds.drop k)) (oS (.imm o) (.imm (.lst ds)) (.imm (.int k)) e st) := by
    simp [oS, mSlN, cur, mNoP, mPart, mVar, bnd, DL.ret, c2, lift]
  have s3 : mFz (mLst (mCons (mVar 1) mNil)) (oS (.imm o) (.imm (.lst ds)) (.imm (.int k)) e st) = .ok (.lst [o]) (oS (.imm o) (.imm (.lst ds)) (.imm (.int k)) e st) := by
    simp [oS, mFz, mLst, mCons, mNil, mVar, bnd, DL.ret, few]
  have s4 : mBinF lAddL (mFz (mBinF lAddL (mSlN 2 mNoP (mPart (mVar 3))) (mFz (mLst (mCons (mVar 1) mNil))))) (mSlN 2 (mPart (mVar 3)) mNoP) (oS (.imm o) (.imm (.lst ds)) (.imm (.int k)) e st) = .ok (ds.take k ++ [o] ++ ds.drop k) (oS (.imm o) (.imm (.lst ds)) (.imm (.int k)) e st) := by
    have s5 : mBinF lAddL (mSlN 2 mNoP (mPart (mVar 3))) (mFz (mLst (mCons (mVar 1) mNil))) (oS (.imm o) (.imm (.lst ds)) (.imm (.int k)) e st) = .ok (ds.take k ++ [o]) (oS (.imm o) (.imm (.lst ds)) (.imm (.int k)) e st) := by
      unfold mBinF
      rw [bnd_of s1, bnd_of s3]
      simp only [g1]
    have s6 := SX.fz_of s5
    unfold mBinF at s6 ⊢
    rw [bnd_of s6, bnd_of s2]
    simp only [g2]
  unfold mOwn
  rw [bnd_of s4]
  rfl
theorem o5 {fp : Fn} {w : List D} {d : D} {a b c : Slot} {st st1 : List Ob} (h : fp [.loc 0, .lst (rows w)] st = .ok d st1) : mRet (mCall fp (mCons (mVar 0) (mCons (mFz (mLst (mCons (mC .non) (mCons (mC (.int 7)) (mCons (mC (.str "12")) (mCons (mC (.bl false)) (mCons (mVar 4) (mCons (mVar 4) (mCons (mUn fTuple (mLook 4)) mNil))))))))) mNil))) (oS a b c (.own w) st) = .ok (.rt d) (oS a b c (.imm (.lst w)) st1) := by
  have e : mFz (mLst (mCons (mC .non) (mCons (mC (.int 7)) (mCons (mC (.str "12")) (mCons (mC (.bl false)) (mCons (mVar 4) (mCons (mVar 4) (mCons (mUn fTuple (mLook 4)) mNil)))))))) (oS a b c (.own w) st) = .ok (.lst (rows w)) (oS a b c (.imm (.lst w)) st) := rfl
  have e0 : mVar 0 (oS a b c (.own w) st) = .ok (.loc 0) (oS a b c (.own w) st) := rfl
  have e1 := SX.call_of (f := fp) (SX.cons_of e0 (SX.cons_of e SX.nil_of)) h
  unfold mRet
  rw [bnd_of e1]
  rfl
theorem orow_gen {A1 A2 A3 A4 A5 : MS} {d : D} {a b c e : Slot} {s1 s2 s3 s4 : DL.S} {st st5 : List Ob} (h1 : A1 (oS .emp .emp .emp .emp st) = .ok .nx s1) (h2 : A2 s1 = .ok .nx s2) (h3 : A3 s2 = .ok .nx s3) (h4 : A4 s3 = .ok .nx s4) (h5 : A5 s4 = .ok (.rt d) (oS a b c e st5)) : fnM 5 (mSeq A1 (mSeq A2 (mSeq A3 (mSeq A4 A5)))) [.loc 0] st = .ok d st5 := by
  show endR (mSeq A1 _ (oS .emp .emp .emp .emp st)) = _
  rw [seq_nx h1, seq_nx h2, seq_nx h3, seq_nx h4, h5]
  rfl
theorem orow_ok {B : Nat} {rs st : List Ob} (hp : PenT B rs st) (hB : B + 70 < 2 ^ 30) : ∃ d st', f__law_odd_row [.loc 0] st = .ok d st' ∧ NL d ∧ Ak 3 d ∧ PenT (B + 70) rs st' := by
  obtain ⟨o, t1, e1, m1, p1⟩ := pickT (ds := oddv) hp (by omega) (by decide) (by decide)
  obtain ⟨l, t2, e2, _, hl, p2⟩ := lrow4 p1 (by omega)
  obtain ⟨k, t3, e3, k0, k1, p3⟩ := drawT (m := (l.map D.int).length + 1) p2 (by omega) (by omega) (by simp; omega)
  obtain ⟨k, rfl⟩ : ∃ j : Nat, k = j := ⟨k.toNat, by omega⟩
  have kl : k ≤ l.length := by simp at k1; omega
  obtain ⟨d, t4, e4, m4, p4⟩ := pickT (ds := rows (wrow l o k)) p3 (by omega) (by simp [rows]) (by simp [rows])
  obtain ⟨q1, q2⟩ := rows_ok m1 kl (by omega) m4
  exact ⟨d, t4, orow_gen (o1 (fun s => by kernel_rfl) e1) (o2 e2) (o3 e3) (o4 (by simp; omega)) (o5 e4), q1, q2, p4.mono (by omega)⟩
end RF
namespace RF
open PySem PySem.Spec L2 DL LC SP SZ SG SX
theorem thT_at {T : LamT} (hd : (T.map (·.1)).Nodup) {l : Lam} {mb : ME} (h : (l, mb) ∈ T) (fs : List (Str × D)) (st : List Ob) : thT T l fs st = roE (mb ⟨slF fs, st⟩) := by
  induction T with
  | nil => cases h
  | cons p T ih =>
    obtain ⟨l', mb'⟩ := p
    unfold thT
    rcases List.mem_cons.mp h with e | h
    · cases e
      rw [if_pos rfl]
    · have hd2 : l' ∉ T.map (·.1) ∧ (T.map (·.1)).Nodup := by simpa using hd
      have ne : l ≠ l' := fun e => hd2.1 (e ▸ List.mem_map_of_mem (f := (·.1)) h)
      rw [if_neg ne]
      exact ih hd2.2 h
theorem unhide_hide (more : List Ob) : ∀ (st : List Ob), unhide st (hide st ++ more) = st ++ more
  | [] => by unfold unhide hide; rfl
  | o :: st => by
    show (if isClo o then o else hideO o) :: unhide st (hide st ++ more) = o :: (st ++ more)
    rw [unhide_hide more st]
    cases o <;> rfl
theorem hide_at {st : List Ob} {i : Nat} {o : Ob} (h : st[i]? = some o) (n : isClo o = false) : (hide st)[i]? = some o := by
  unfold hide
  rw [List.getElem?_map, h]
  cases o <;> first | rfl | cases n
theorem clo_exc {T : LamT} {st more : List Ob} {n : Nat} {l : Lam} {fs : List (Str × D)} {x : Exc} (hst : st[n]? = some (.clo l fs)) (h : thT T l fs (hide st) = .exc x (hide st ++ more)) : cloR T st (.imm (.loc n)) = .exc x (st ++ more) := by
  show (match st[n]? with | some (.clo l fs) => roR st (thT T l fs (hide st)) | _ => .stuck) = _
  rw [hst]
  show roR st (thT T l fs (hide st)) = _
  rw [h]
  show RO.exc x (unhide st (hide st ++ more)) = _
  rw [unhide_hide]
section
variable {y1 y2 y3 : Str} {d o w t : D} {lo n : Int} {i : Nat} {x : Exc} {st : List Ob} {r : D}
theorem ins_at (hi : st[i]? = some (szO r)) {sl : List Slot} : insAt "Size" ⟨sl, st⟩ (.loc i) = some (i, [(("row" : Str), r)]) := by simp [insAt, hi, szO]
theorem r_make {fi : Fn} (h : ∀ j s, fi [.loc j, d] s = .exc x s) : roE (mMake "Size" fi (mCons (mVar 0) mNil) ⟨slF [(y1, d)], st⟩) = .exc x (st ++ [.ins "Size" []]) := by
  simp [mMake, mCons, mNil, mVar, slF, bnd, DL.ret, h, roE]
theorem r_cm {ft : Fn} (h : ft [.cla "Size", o, w] st = .exc x st) : roE (mCMx "Size" ft (mCons (mVar 0) (mCons (mVar 1) mNil)) ⟨slF [(y1, o), (y2, w)], st⟩) = .exc x (st ++ []) := by
  simp [mCMx, mCons, mNil, mVar, slF, bnd, DL.ret, h, roE, outR]
theorem r_sm1 {ff : Fn} {z : D} (h : ff [d, z] st = .exc x st) : roE (mSMx ff [z] (mCons (mVar 0) mNil) ⟨slF [(y1, d)], st⟩) = .exc x (st ++ []) := by
  simp [mSMx, mCons, mNil, mVar, slF, bnd, DL.ret, h, roE, outR]
theorem r_sm2 {ff : Fn} (h : ff [o, o] st = .exc x st) : roE (mSMx ff [] (mCons (mVar 0) (mCons (mVar 0) mNil)) ⟨slF [(y1, o)], st⟩) = .exc x (st ++ []) := by
  simp [mSMx, mCons, mNil, mVar, slF, bnd, DL.ret, h, roE, outR]
theorem r_sm3 {ff : Fn} {k : Int} (h : ff [.int k, o] st = .exc x st) : roE (mSMx ff [] (mCons (mC (.int k)) (mCons (mVar 0) mNil)) ⟨slF [(y1, o)], st⟩) = .exc x (st ++ []) := by
  simp [mSMx, mCons, mNil, mVar, mC, slF, bnd, DL.ret, h, roE, outR]
theorem r_sm4 {ff : Fn} (h : ff [d, o] st = .exc x st) : roE (mSMx ff [] (mCons (mVar 0) (mCons (mVar 1) mNil)) ⟨slF [(y1, d), (y2, o)], st⟩) = .exc x (st ++ []) := by
  simp [mSMx, mCons, mNil, mVar, mC, slF, bnd, DL.ret, h, roE, outR]
theorem r_co {fc : Fn} (hi : st[i]? = some (szO r)) (h : fc [.loc i, o] st = .exc x st) : roE (mCallOx "Size" fc (mVar 1) (mCons (mVar 0) mNil) ⟨slF [(y1, o), (y2, .loc i)], st⟩) = .exc x (st ++ []) := by
  have e := ins_at hi (sl := slF [(y1, o), (y2, .loc i)])
  simp only [slF, List.map_cons, List.map_nil] at e ⊢
  simp [mCallOx, mCons, mNil, mVar, bnd, DL.ret, e, h, roE, outR]
theorem r_op0 {fo : Fn} {k : Int} (hi : st[i]? = some (szO r)) (h : fo [.loc i, .int k] st = .exc x st) : roE (mOpAn "Size" fo (mVar 0) (mC (.int k)) ⟨slF [(y1, .loc i)], st⟩) = .exc x (st ++ []) := by
  have e := ins_at hi (sl := slF [(y1, .loc i)])
  simp only [slF, List.map_cons, List.map_nil] at e ⊢
  simp [mOpAn, mVar, mC, bnd, DL.ret, e, h, roE, outR, tyD]
theorem r_op {fo : Fn} (hi : st[i]? = some (szO r)) (ht : (tyD o).isSome = true) (h : fo [.loc i, o] st = .exc x st) : roE (mOpAn "Size" fo (mVar 1) (mVar 0) ⟨slF [(y1, o), (y2, .loc i)], st⟩) = .exc x (st ++ []) := by
  have e := ins_at hi (sl := slF [(y1, o), (y2, .loc i)])
  obtain ⟨ty, hty⟩ := Option.isSome_iff_exists.mp ht
  simp only [slF, List.map_cons, List.map_nil] at e ⊢
  simp [mOpAn, mVar, mC, bnd, DL.ret, e, h, roE, outR, hty]
theorem r_me {fs : Fn} {m : Str} (hm : ([(("row" : Str), r)] : List (Str × D)).lookup m = none) (hi : st[i]? = some (szO r)) {dd : List D} (h : fs (.loc i :: d :: dd) st = .exc x st) : roE (mMeth "Size" m fs dd (mVar 1) (mCons (mVar 0) mNil) ⟨slF [(y1, d), (y2, .loc i)], st⟩) = .exc x (st ++ []) := by
  have e := ins_at hi (sl := slF [(y1, d), (y2, .loc i)])
  simp only [slF, List.map_cons, List.map_nil] at e ⊢
  simp [mMeth, mCons, mNil, mVar, bnd, DL.ret, e, hm, h, roE, outR]
theorem r_me2 {fs : Fn} {m : Str} (hm : ([(("row" : Str), r)] : List (Str × D)).lookup m = none) (hi : st[i]? = some (szO r)) (h : fs [.loc i, d, o] st = .exc x st) : roE (mMeth "Size" m fs [] (mVar 2) (mCons (mVar 0) (mCons (mVar 1) mNil)) ⟨slF [(y1, d), (y2, o), (y3, .loc i)], st⟩) = .exc x (st ++ []) := by
  have e := ins_at hi (sl := slF [(y1, d), (y2, o), (y3, .loc i)])
  simp only [slF, List.map_cons, List.map_nil] at e ⊢
  simp [mMeth, mCons, mNil, mVar, bnd, DL.ret, e, hm, h, roE, outR]
theorem r_me3 {fs : Fn} {m : Str} (hm : ([(("row" : Str), r)] : List (Str × D)).lookup m = none) (hi : st[i]? = some (szO r)) (h : fs [.loc i, d, o] st = .exc x st) : roE (mMeth "Size" m fs [] (mVar 1) (mCons (mVar 0) (mCons (mVar 2) mNil)) ⟨slF [(y1, d), (y2, .loc i), (y3, o)], st⟩) = .exc x (st ++ []) := by
  have e := ins_at hi (sl := slF [(y1, d), (y2, .loc i), (y3, o)])
  simp only [slF, List.map_cons, List.map_nil] at e ⊢
  simp [mMeth, mCons, mNil, mVar, bnd, DL.ret, e, hm, h, roE, outR]
theorem r_kw {fs : Fn} {m : Str} (hm : ([(("row" : Str), r)] : List (Str × D)).lookup m = none) (hi : st[i]? = some (szO r)) (h : fs [.loc i, .int 0, d] st = .exc x st) : roE (mMethKw "Size" m fs 1 (fun ds es => ds ++ ([.int 0] ++ es)) (mVar 1) (mCons (mVar 0) mNil) ⟨slF [(y1, d), (y2, .loc i)], st⟩) = .exc x (st ++ []) := by
  have e := ins_at hi (sl := slF [(y1, d), (y2, .loc i)])
  simp only [slF, List.map_cons, List.map_nil] at e ⊢
  simp [mMethKw, mCons, mNil, mVar, bnd, DL.ret, e, hm, h, roE, outR]
end
theorem err_gen {cs : List ClM} {c : Nat → Option Bool} {T : LamT} {R : MS} {n : Nat} {d : D} {st st' : List Ob} {q : D} (h : cloR T st (.imm (.loc n)) = .exc (BV d) st') (hc : clauses cs (BV d) ⟨[.imm (.loc n), .emp], st'⟩ = .ok (.rt q) ⟨[.imm (.loc n), .emp], st'⟩) : fnM 2 (mSeq (mTryCl cs (mExpr (mCallClo 0 T))) R) [.loc n] st = .ok q st' := by
  show endR (mSeq _ _ ⟨[.imm (.loc n), .emp], st⟩) = _
  have e0 : mCallClo 0 T ⟨[.imm (.loc n), .emp], st⟩ = .exc (BV d) ⟨[.imm (.loc n), .emp], st'⟩ := by
    show outR _ (cloR T st (.imm (.loc n))) = _
    rw [h]; rfl
  have e : mExpr (mCallClo 0 T) ⟨[.imm (.loc n), .emp], st⟩ = .exc (BV d) ⟨[.imm (.loc n), .emp], st'⟩ := by
    unfold mExpr
    simp [bnd, e0]
  have t : mTryCl cs (mExpr (mCallClo 0 T)) ⟨[.imm (.loc n), .emp], st⟩ = .ok (.rt q) ⟨[.imm (.loc n), .emp], st'⟩ := by
    unfold mTryCl
    rw [if_pos (show noX ⟨[.imm (.loc n), .emp], st⟩ = true from rfl), e]
    simp only
    rw [if_pos (show noX ⟨[.imm (.loc n), .emp], st'⟩ = true from rfl)]
    exact hc
  unfold mSeq
  rw [t]
  rfl
theorem err_ok {lam : Nat → Lam} {n : Nat} {d : D} {st st' : List Ob} (h : cloR (tab__law_cases lam) st (.imm (.loc n)) = .exc (BV d) st') : f__law_error lam [.loc n] st = .ok (.tup [.str "value", d]) st' :=
  err_gen (c := fun _ => none) h (by kernel_rfl)
theorem ref_gen {fe fa : Fn} {n : Nat} {d : D} {st st' : List Ob} (h1 : fe [.loc n] st = .ok (.tup [.str "value", d]) st') (h2 : fa [d, d] st' = .ok (.bl true) st') : fnM 3 (mSeq (mSet 2 (mCall fe (mCons (mVar 0) mNil))) (mRet (mAnd (mBin fNotN (mVar 2) (mC .non)) (mAnd (mBin fEq (mIxN 2 (mC (.int 0))) (mC (.str "value"))) (mCall fa (mCons (mIxN 2 (mC (.int 1))) (mCons (mVar 1) mNil))))))) [.loc n, d] st = .ok (.bl true) st' := by
  show endR (mSeq _ _ ⟨[.imm (.loc n), .imm d, .emp], st⟩) = _
  have e1 : mSet 2 (mCall fe (mCons (mVar 0) mNil)) ⟨[.imm (.loc n), .imm d, .emp], st⟩ = .ok .nx ⟨[.imm (.loc n), .imm d, .imm (.tup [.str "value", d])], st'⟩ := by
    simp [mSet, mCall, mCons, mNil, mVar, bnd, DL.ret, h1, outR, S.put]
  rw [seq_nx e1]
  have q0 : mIxN 2 (mC (.int 0)) ⟨[.imm (.loc n), .imm d, .imm (.tup [.str "value", d])], st'⟩ = .ok (.str "value") ⟨[.imm (.loc n), .imm d, .imm (.tup [.str "value", d])], st'⟩ := rfl
  have q1 : mIxN 2 (mC (.int 1)) ⟨[.imm (.loc n), .imm d, .imm (.tup [.str "value", d])], st'⟩ = .ok d ⟨[.imm (.loc n), .imm d, .imm (.tup [.str "value", d])], st'⟩ := rfl
  have q2 : fEq (.str "value") (.str "value") = some (.bl true) := eq_atom rfl
  have a1 : mBin fNotN (mVar 2) (mC .non) ⟨[.imm (.loc n), .imm d, .imm (.tup [.str "value", d])], st'⟩ = .ok (.bl true) ⟨[.imm (.loc n), .imm d, .imm (.tup [.str "value", d])], st'⟩ := rfl
  have a2 : mBin fEq (mIxN 2 (mC (.int 0))) (mC (.str "value")) ⟨[.imm (.loc n), .imm d, .imm (.tup [.str "value", d])], st'⟩ = .ok (.bl true) ⟨[.imm (.loc n), .imm d, .imm (.tup [.str "value", d])], st'⟩ := SZ.bin_of q0 rfl q2
  have a3 : mCall fa (mCons (mIxN 2 (mC (.int 1))) (mCons (mVar 1) mNil)) ⟨[.imm (.loc n), .imm d, .imm (.tup [.str "value", d])], st'⟩ = .ok (.bl true) ⟨[.imm (.loc n), .imm d, .imm (.tup [.str "value", d])], st'⟩ := SX.call_of (SX.cons_of q1 (SX.cons_of rfl SX.nil_of)) h2
  simp [mRet, mAnd, bnd, a1, a2, a3, DL.ret, optB, tru, endR]
theorem ref_ok {lam : Nat → Lam} {n k : Nat} {d : D} {st st' : List Ob} (h : cloR (tab__law_cases lam) st (.imm (.loc n)) = .exc (BV d) st') (ha : Ak k d) (hk : k < 8) : f__law_refuses lam [.loc n, d] st = .ok (.bl true) st' := ref_gen (err_ok h) (alike_ok ha 8 st' hk)
end RF
namespace RF
open PySem PySem.Spec L2 DL LC SP SZ SG SX
theorem far_ge {B : Nat} {rs st : List Ob} (h : PenT B rs st) (hB : B + 8 < 2 ^ 30) : ∃ k st', f__law_far [.loc 0] st = .ok (.int k) st' ∧ 0 ≤ k ∧ PenT (B + 8) rs st' := by
  obtain ⟨w, s1, e1, w0, w1, t1⟩ := drawT h (by omega) (m := 5) (by omega) (by omega)
  by_cases c : w < 3
  · obtain ⟨k, s2, e2, k0, k1, t2⟩ := drawT t1 (by omega) (m := 14) (by omega) (by omega)
    exact ⟨k, s2, far_gen pw60 pw100 e1 (.inl ⟨c, e2⟩), k0, t2.mono (by omega)⟩
  · by_cases c2 : w = 3
    · obtain ⟨k, s2, e2, k0, k1, t2⟩ := great_lt (mm := 10 ^ 60) t1 (by omega) (by decide) (by decide)
      exact ⟨k, s2, far_gen pw60 pw100 e1 (.inr (.inl ⟨c, c2, e2⟩)), k0, t2.mono (by omega)⟩
    · obtain ⟨k, s2, e2, k0, k1, t2⟩ := drawT t1 (by omega) (m := 3) (by omega) (by omega)
      have big : (3 : Int) < 10 ^ 50 * 10 ^ 50 := by decide
      exact ⟨10 ^ 50 * 10 ^ 50 - k, s2, far_gen pw60 pw100 e1 (.inr (.inr ⟨c, c2, k, e2, rfl⟩)), by omega, t2.mono (by omega)⟩
def isFun : Ob → Bool
  | .fun _ _ => true
  | _ => false
def noFun (st : List Ob) : Prop := ∀ o ∈ st, isFun o = false
theorem exitSt_nf {cl : List (Str × Addr)} {ns cs : List Str} {sl : List Slot} : ∀ {st : List Ob}, noFun st → exitSt cl ns cs sl st = some st
  | [], _ => rfl
  | o :: st, h => by
    have e : exitOb cl ns cs sl o = some o := by
      have := h o List.mem_cons_self
      cases o <;> first | rfl | cases this
    unfold exitSt
    rw [e, exitSt_nf fun x hx => h x (List.mem_cons_of_mem _ hx)]
theorem exitSt_app {cl : List (Str × Addr)} {ns cs : List Str} {sl : List Slot} {B B' : List Ob} (hB : exitSt cl ns cs sl B = some B') : ∀ {A A' : List Ob}, exitSt cl ns cs sl A = some A' → exitSt cl ns cs sl (A ++ B) = some (A' ++ B')
  | [], _, h => by
    unfold exitSt at h
    cases h
    exact hB
  | o :: A, A', h => by
    unfold exitSt at h
    split at h
    · rename_i a b e1 e2
      cases h
      show exitSt cl ns cs sl (o :: (A ++ B)) = _
      unfold exitSt
      rw [e1, exitSt_app hB e2]
      rfl
    · cases h
theorem exitSt_fun {lam : Nat → Lam} {cl : List (Str × Addr)} {ns cs : List Str} {sl : List Slot} {E : Nat → List (Str × D)} : ∀ {ks : List Nat}, (∀ k ∈ ks, envOf ns cs sl (frees (lam k)) = some (E k)) → exitSt cl ns cs sl (ks.map fun k => .fun (lam k) cl) = some (ks.map fun k => .clo (lam k) (E k))
  | [], _ => rfl
  | k :: ks, h => by
    have e : exitOb cl ns cs sl (.fun (lam k) cl) = some (.clo (lam k) (E k)) := by
      show exitFun cl ns cs sl (lam k) cl = _
      unfold exitFun
      rw [if_pos rfl, h k List.mem_cons_self]
    show exitSt cl ns cs sl (.fun (lam k) cl :: ks.map fun k => .fun (lam k) cl) = _
    unfold exitSt
    rw [e, exitSt_fun fun x hx => h x (List.mem_cons_of_mem _ hx)]
    rfl
abbrev Pr := Nat × ME × D
def pm (lam : Nat → Lam) (cl : List (Str × Addr)) : List Pr → MA
  | [] => mNil
  | p :: r => mCons (mTup (mCons (mLamF (lam p.1) cl) (mCons p.2.1 mNil))) (pm lam cl r)
def prs (N : Nat) : List Pr → List D
  | [] => []
  | p :: r => .tup [.loc N, p.2.2] :: prs (N + 1) r
theorem prs_len (N : Nat) (L : List Pr) : (prs N L).length = L.length := by
  induction L generalizing N with
  | nil => rfl
  | cons p r ih => simp [prs, ih]
theorem pm_eq {lam : Nat → Lam} {cl : List (Str × Addr)} {sl : List Slot} : ∀ {L : List Pr} (st : List Ob), (∀ p ∈ L, ∀ st, p.2.1 ⟨sl, st⟩ = .ok p.2.2 ⟨sl, st⟩) → pm lam cl L ⟨sl, st⟩ = .ok (prs st.length L) ⟨sl, st ++ (L.map (·.1)).map fun k => .fun (lam k) cl⟩
  | [], st, _ => by simp [pm, prs, mNil, DL.ret]
  | p :: r, st, h => by
    have e1 : mLamF (lam p.1) cl ⟨sl, st⟩ = .ok (.loc st.length) ⟨sl, st ++ [.fun (lam p.1) cl]⟩ := rfl
    have e2 := h p List.mem_cons_self (st ++ [.fun (lam p.1) cl])
    have ih := pm_eq (lam := lam) (cl := cl) (sl := sl) (L := r) (st ++ [.fun (lam p.1) cl]) fun x hx => h x (List.mem_cons_of_mem _ hx)
    have e3 : mTup (mCons (mLamF (lam p.1) cl) (mCons p.2.1 mNil)) ⟨sl, st⟩ = .ok (.tup [.loc st.length, p.2.2]) ⟨sl, st ++ [.fun (lam p.1) cl]⟩ := SX.pr_of e1 e2
    have e4 := SX.cons_of e3 ih
    show mCons _ _ _ = _
    rw [e4]
    simp [prs]
def lamsL (o w t : D) (lo : Int) : List Pr := [(0, mVar 3, w), (1, mVar 2, o), (2, mVar 3, w), (3, mVar 4, .int lo), (4, mVar 2, o), (5, mVar 2, o), (6, mVar 4, .int lo), (7, mVar 2, o), (8, mC (.int 0), .int 0), (9, mVar 2, o), (10, mVar 2, o), (11, mVar 2, o), (12, mVar 4, .int lo), (13, mVar 4, .int lo), (14, mVar 2, o), (15, mVar 6, t), (16, mVar 4, .int lo), (17, mVar 2, o)]
abbrev nOdd : Str := "_law_odd_here"
abbrev nWr : Str := "_law_wrong"
abbrev nLow : Str := "_law_low"
abbrev nSz : Str := "_law_size"
abbrev nN : Str := "_law_n"
abbrev nTx : Str := "_law_text"
/-- the free names of the lambdas -/
def frL : List (List Str) := [[nWr], [nOdd, nWr], [nLow, nWr], [nLow], [nOdd], [nOdd], [nLow, nOdd], [nOdd, nSz], [nSz], [nOdd, nSz], [nOdd, nSz], [nOdd, nSz], [nLow, nSz], [nLow, nOdd, nSz], [nOdd, nSz], [nN, nSz, nTx], [nLow, nSz], [nOdd, nSz]]
/-- .. and what they stand for -/
def enL (i : Nat) (o w t : D) (lo n : Int) : List (List (Str × D)) := [[(nWr, w)], [(nOdd, o), (nWr, w)], [(nLow, .int lo), (nWr, w)], [(nLow, .int lo)], [(nOdd, o)], [(nOdd, o)], [(nLow, .int lo), (nOdd, o)], [(nOdd, o), (nSz, .loc i)], [(nSz, .loc i)], [(nOdd, o), (nSz, .loc i)], [(nOdd, o), (nSz, .loc i)], [(nOdd, o), (nSz, .loc i)], [(nLow, .int lo), (nSz, .loc i)], [(nLow, .int lo), (nOdd, o), (nSz, .loc i)], [(nOdd, o), (nSz, .loc i)], [(nN, .int n), (nSz, .loc i), (nTx, t)], [(nLow, .int lo), (nSz, .loc i)], [(nOdd, o), (nSz, .loc i)]]
def enK (i : Nat) (o w t : D) (lo n : Int) (k : Nat) : List (Str × D) := (enL i o w t lo n).getD k []
abbrev nsL : List Str := ["_law_pen_here", "_law_size", "_law_odd_here", "_law_wrong", "_law_low", "_law_n", "_law_text"]
abbrev csL : List Str := ["_law_size", "_law_odd_here", "_law_wrong", "_law_low", "_law_n", "_law_text"]
def slC (i : Nat) (o w t : D) (lo n : Int) : List Slot := [.imm (.loc 0), .imm (.loc i), .imm o, .imm w, .imm (.int lo), .imm (.int n), .imm t]
/-- what is known of the lambdas -/
structure LamI (lam : Nat → Lam) : Prop where
  nd : ((List.range 18).map lam).Nodup
  fr : (List.range 18).map (fun k => frees (lam k)) = frL
theorem LamI.at {lam : Nat → Lam} (h : LamI lam) {k : Nat} (hk : k < 18) : frees (lam k) = frL.getD k [] := by
  have e := congrArg (fun l => l.getD k []) h.fr
  have : ((List.range 18).map (fun k => frees (lam k))).getD k [] = frees (lam k) := by
    rw [List.getD_eq_getElem?_getD, List.getElem?_map, List.getElem?_range hk]
    rfl
  rw [← this]
  exact e
theorem env_ok {i : Nat} {o w t : D} {lo n : Int} : ∀ k < 18, envOf nsL csL (slC i o w t lo n) (frL.getD k []) = some (enK i o w t lo n k) := by
  intro k hk
  match k, hk with
  | 0, _ => kernel_rfl
  | 1, _ => kernel_rfl
  | 2, _ => kernel_rfl
  | 3, _ => kernel_rfl
  | 4, _ => kernel_rfl
  | 5, _ => kernel_rfl
  | 6, _ => kernel_rfl
  | 7, _ => kernel_rfl
  | 8, _ => kernel_rfl
  | 9, _ => kernel_rfl
  | 10, _ => kernel_rfl
  | 11, _ => kernel_rfl
  | 12, _ => kernel_rfl
  | 13, _ => kernel_rfl
  | 14, _ => kernel_rfl
  | 15, _ => kernel_rfl
  | 16, _ => kernel_rfl
  | 17, _ => kernel_rfl
  | k + 18, h => exact absurd h (by omega)
/-- the lambdas as they stand in the store -/
def clos (lam : Nat → Lam) (i : Nat) (o w t : D) (lo n : Int) : List Ob := (List.range 18).map fun k => .clo (lam k) (enK i o w t lo n k)
theorem body_nx {ms : MS} {m : ME} {s s' : DL.S} (h : ms s = .ok .nx s') : mBodyC ms m s = m s' := by simp [mBodyC, h]
theorem b1 {fo fr : Fn} {i : Nat} {x y : D} {a b c d e : Slot} {st s1 s2 : List Ob} (h1 : fo [.loc 0] st = .ok x s1) (h2 : fr [.loc 0] s1 = .ok y s2) :
    mAsg (gTL 2 (gsCons (gNm 2) (gsCons (gNm 3) gsNil))) (mTup (mCons (mCall fo (mCons (mVar 0) mNil)) (mCons (mCall fr (mCons (mVar 0) mNil)) mNil))) ⟨[.imm (.loc 0), .imm (.loc i), a, b, c, d, e], st⟩ = .ok .nx ⟨[.imm (.loc 0), .imm (.loc i), .imm x, .imm y, c, d, e], s2⟩ := by
  simp [mAsg, mTup, mCall, mCons, mNil, mVar, bnd, DL.ret, h1, h2, outR, gTL, gsCons, gsNil, gNm, few, S.puts, S.put]
theorem b2 {ff : Fn} {i : Nat} {x y : D} {f1 f2 : Int} {c d e : Slot} {st s1 s2 : List Ob} (h1 : ff [.loc 0] st = .ok (.int f1) s1) (h2 : ff [.loc 0] s1 = .ok (.int f2) s2) :
    mAsg (gTL 2 (gsCons (gNm 4) (gsCons (gNm 5) gsNil))) (mTup (mCons (mBin iSub (mUn iNeg (mC (.int 1))) (mCall ff (mCons (mVar 0) mNil))) (mCons (mBin fAdd (mC (.int 1)) (mCall ff (mCons (mVar 0) mNil))) mNil))) ⟨[.imm (.loc 0), .imm (.loc i), .imm x, .imm y, c, d, e], st⟩ = .ok .nx ⟨[.imm (.loc 0), .imm (.loc i), .imm x, .imm y, .imm (.int (-1 - f1)), .imm (.int (1 + f2)), e], s2⟩ := by
  simp [mAsg, mTup, mCall, mCons, mNil, mVar, mBin, mUn, mC, iNeg, iSub, intF, fAdd, lift, bnd, DL.ret, h1, h2, outR, gTL, gsCons, gsNil, gNm, few, S.puts, S.put]
def txs (n : Int) : List D := [.bl true, .str "4", .tup [.int 3], .int (n - 1), .int (-n)]
theorem b3 {fp : Fn} {i : Nat} {x y z d : D} {n : Int} {e : Slot} {st s1 : List Ob} (h : fp [.loc 0, .lst (txs n)] st = .ok d s1) :
    mSet 6 (mCall fp (mCons (mVar 0) (mCons (mFz (mLst (mCons (mC (.bl true)) (mCons (mC (.str "4")) (mCons (mTup (mCons (mC (.int 3)) mNil)) (mCons (mBin iSub (mVar 5) (mC (.int 1))) (mCons (mUn iNeg (mVar 5)) mNil))))))) mNil))) ⟨[.imm (.loc 0), .imm (.loc i), .imm x, .imm y, .imm z, .imm (.int n), e], st⟩ = .ok .nx ⟨[.imm (.loc 0), .imm (.loc i), .imm x, .imm y, .imm z, .imm (.int n), .imm d], s1⟩ := by
  have q : mFz (mLst (mCons (mC (.bl true)) (mCons (mC (.str "4")) (mCons (mTup (mCons (mC (.int 3)) mNil)) (mCons (mBin iSub (mVar 5) (mC (.int 1))) (mCons (mUn iNeg (mVar 5)) mNil)))))) ⟨[.imm (.loc 0), .imm (.loc i), .imm x, .imm y, .imm z, .imm (.int n), e], st⟩ = .ok (.lst (txs n)) ⟨[.imm (.loc 0), .imm (.loc i), .imm x, .imm y, .imm z, .imm (.int n), e], st⟩ := rfl
  have q0 : mVar 0 ⟨[.imm (.loc 0), .imm (.loc i), .imm x, .imm y, .imm z, .imm (.int n), e], st⟩ = .ok (.loc 0) ⟨[.imm (.loc 0), .imm (.loc i), .imm x, .imm y, .imm z, .imm (.int n), e], st⟩ := rfl
  have e0 := SX.call_of (f := fp) (SX.cons_of q0 (SX.cons_of q SX.nil_of)) h
  unfold mSet
  rw [bnd_of e0]
  rfl
theorem clo_gen {lam : Nat → Lam} {m : List (Str × Addr) → ME} {ns cs : List Str} {ds : List D} {sl : List Slot} {d : D} {E : Nat → List (Str × D)} {ks : List Nat} {st st1 : List Ob} (hm : ∀ cl, m cl ⟨slots ns.length ds, st⟩ = .ok d ⟨sl, st1 ++ ks.map fun k => .fun (lam k) cl⟩) (hn : noFun st1) (he : ∀ k ∈ ks, envOf ns cs sl (frees (lam k)) = some (E k)) :
    fnClo ns cs m ds st = .ok d (st1 ++ ks.map fun k => .clo (lam k) (E k)) := by
  have h : ∀ cl, exitR cl ns cs (m cl ⟨slots ns.length ds, st⟩) = .ok d (st1 ++ ks.map fun k => .clo (lam k) (E k)) := fun cl => by
    rw [hm cl]
    show (match exitSt cl ns cs sl (st1 ++ ks.map fun k => .fun (lam k) cl) with | some st' => RO.ok d st' | none => .stuck) = _
    rw [exitSt_app (exitSt_fun he) (exitSt_nf hn)]
  unfold fnClo
  rw [if_pos (fun cl => (h cl).trans (h []).symm), h []]
theorem cases_ok {lam : Nat → Lam} (hL : LamI lam) {B i : Nat} {rs st : List Ob} (hp : PenT B rs st) (hB : B + 100 < 2 ^ 30) (hn : noFun rs) :
    ∃ o w t lo n st1, f__law_cases lam [.loc 0, .loc i] st = .ok (.lst (prs st1.length (lamsL o w t lo))) (st1 ++ clos lam i o w t lo n) ∧ PenT (B + 100) rs st1 ∧ o ∈ odds ∧ NL w ∧ Ak 3 w ∧ lo < 0 ∧ 0 < n ∧ t ∈ txs n := by
  obtain ⟨o, s1, e1, m1, p1⟩ := odd_ok hp (by omega)
  obtain ⟨w, s2, e2, nw, aw, p2⟩ := orow_ok p1 (by omega)
  obtain ⟨f1, s3, e3, g1, p3⟩ := far_ge p2 (by omega)
  obtain ⟨f2, s4, e4, g2, p4⟩ := far_ge p3 (by omega)
  obtain ⟨t, s5, e5, m5, p5⟩ := pickT (ds := txs (1 + f2)) p4 (by omega) (by simp [txs]) (by simp [txs])
  refine ⟨o, w, t, -1 - f1, 1 + f2, s5, ?_, p5.mono (by omega), m1, nw, aw, by omega, by omega, m5⟩
  refine clo_gen (ks := List.range 18) (sl := slC i o w t (-1 - f1) (1 + f2)) (E := enK i o w t (-1 - f1) (1 + f2)) (fun cl => ?_) ?_ fun k hk => ?_
  · show m__law_cases lam cl ⟨[.imm (.loc 0), .imm (.loc i), .emp, .emp, .emp, .emp, .emp], st⟩ = _
    unfold m__law_cases
    rw [body_nx (b1 e1 e2), body_nx (b2 e3 e4), body_nx (b3 e5)]
    have q := pm_eq (lam := lam) (cl := cl) (sl := slC i o w t (-1 - f1) (1 + f2)) (L := lamsL o w t (-1 - f1)) s5 (fun p hp st => by
      simp only [lamsL, List.mem_cons, List.not_mem_nil, or_false] at hp
      rcases hp with rfl | rfl | rfl | rfl | rfl | rfl | rfl | rfl | rfl | rfl | rfl | rfl | rfl | rfl | rfl | rfl | rfl | rfl <;> rfl)
    refine SX.fz_of ?_
    show mLst (pm lam cl (lamsL o w t (-1 - f1))) ⟨slC i o w t (-1 - f1) (1 + f2), s5⟩ = _
    unfold mLst
    rw [bnd_of q]
    rw [if_pos (by unfold few; rw [prs_len]; simp [lamsL])]
    rfl
  · obtain ⟨cs, b, r, rfl, _⟩ := p5
    intro x hx
    rcases List.mem_cons.mp hx with rfl | hx
    · rfl
    · exact hn x hx
  · have hk := List.mem_range.mp hk
    rw [hL.at hk]
    exact env_ok k hk
end RF
namespace RF
open PySem PySem.Spec L2 DL LC SP SZ SG SX
theorem txs_ok {n : Int} {t : D} (hn : 0 < n) (h : t ∈ txs n) : Ak 3 t ∧ ((NW t ∧ DL.isNon t = false) ∨ ∃ k : Int, t = .int k ∧ k < n) := by
  simp only [txs, List.mem_cons, List.not_mem_nil, or_false] at h
  rcases h with rfl | rfl | rfl | rfl | rfl
  · exact ⟨.at_ rfl, .inl ⟨nw_of trivial, rfl⟩⟩
  · exact ⟨.at_ rfl, .inl ⟨nw_of trivial, rfl⟩⟩
  · exact ⟨.tup (fun d hd => by rw [List.mem_singleton.mp hd]; exact .at_ rfl) (by decide), .inl ⟨nw_of trivial, rfl⟩⟩
  · exact ⟨.at_ rfl, .inr ⟨_, rfl, by omega⟩⟩
  · exact ⟨.at_ rfl, .inr ⟨_, rfl, by omega⟩⟩
theorem odds_ty {d : D} (h : d ∈ odds) : (tyD d).isSome = true := by
  simp only [odds, List.mem_cons, List.not_mem_nil, or_false] at h
  rcases h with rfl | rfl | rfl | rfl | rfl | rfl | rfl | rfl | rfl <;> rfl
/-- refused, and nothing but new cells behind -/
def Ref (lam : Nat → Lam) (st : List Ob) (k : Nat) (fs : List (Str × D)) (d : D) : Prop := ∃ more, thT (tab__law_cases lam) (lam k) fs st = .exc (BV d) (st ++ more) ∧ noFun more
theorem Ak.up {n : Nat} {d : D} (h : Ak n d) : ∀ {m : Nat}, n ≤ m → Ak m d := by
  induction h with
  | at_ h => exact fun _ => .at_ h
  | @lst n ds h hl ih =>
    intro m hm
    obtain ⟨m, rfl⟩ : ∃ j, m = j + 1 := ⟨m - 1, by omega⟩
    exact .lst (fun d hd => ih d hd (by omega)) hl
  | @tup n ds h hl ih =>
    intro m hm
    obtain ⟨m, rfl⟩ : ∃ j, m = j + 1 := ⟨m - 1, by omega⟩
    exact .tup (fun d hd => ih d hd (by omega)) hl
theorem tab_fst (lam : Nat → Lam) : (tab__law_cases lam).map (·.1) = (List.range 18).map lam := rfl
section
variable {lam : Nat → Lam} {st : List Ob} {i : Nat} {r o w t : D} {lo n : Int}
theorem ref_of (hL : LamI lam) {k : Nat} {mb : ME} {fs : List (Str × D)} {d : D} {more : List Ob} (hm : (lam k, mb) ∈ tab__law_cases lam) (h : roE (mb ⟨slF fs, st⟩) = .exc (BV d) (st ++ more)) (hn : noFun more) : Ref lam st k fs d :=
  ⟨more, (thT_at (by rw [tab_fst]; exact hL.nd) hm fs st).trans h, hn⟩
theorem nf_nil : noFun [] := fun _ h => by cases h
theorem nf_ins : noFun [.ins "Size" []] := fun o h => by rw [List.mem_singleton.mp h]; rfl
theorem mem_at {T : LamT} {k : Nat} {p : Lam × ME} (h : T[k]? = some p) : p ∈ T := List.mem_of_getElem? h
theorem all_ref (hL : LamI lam) (hi : st[i]? = some (szO r)) (ho : o ∈ odds) (hw : NL w) (hlo : lo < 0) (hn : 0 < n) (ht : t ∈ txs n) : ∀ p ∈ lamsL o w t lo, Ref lam st p.1 (enK i o w t lo n p.1) p.2.2 := by
  have no := odds_nw ho
  have ty := odds_ty ho
  obtain ⟨_, tx⟩ := txs_ok hn ht
  intro p hp
  simp only [lamsL, List.mem_cons, List.not_mem_nil, or_false] at hp
  rcases hp with rfl | rfl | rfl | rfl | rfl | rfl | rfl | rfl | rfl | rfl | rfl | rfl | rfl | rfl | rfl | rfl | rfl | rfl
  · exact ref_of hL (mem_at (k := 0) rfl) (r_make (y1 := nWr) fun j s => init_bad hw) nf_ins
  · exact ref_of hL (mem_at (k := 1) rfl) (r_cm (y1 := nOdd) (y2 := nWr) (through_bad1 no)) nf_nil
  · exact ref_of hL (mem_at (k := 2) rfl) (r_cm (y1 := nLow) (y2 := nWr) (through_bad2 hw)) nf_nil
  · exact ref_of hL (mem_at (k := 3) rfl) (r_sm1 (y1 := nLow) (falling_bad1 hlo)) nf_nil
  · exact ref_of hL (mem_at (k := 4) rfl) (r_sm2 (y1 := nOdd) (falling_bad2 no)) nf_nil
  · exact ref_of hL (mem_at (k := 5) rfl) (r_sm3 (y1 := nOdd) (falling_bad3 (by decide) no)) nf_nil
  · exact ref_of hL (mem_at (k := 6) rfl) (r_sm4 (y1 := nLow) (y2 := nOdd) (falling_bad1 hlo)) nf_nil
  · exact ref_of hL (mem_at (k := 7) rfl) (r_co (y1 := nOdd) (y2 := nSz) hi (call_bad no)) nf_nil
  · exact ref_of hL (mem_at (k := 8) rfl) (r_op0 (y1 := nSz) hi fdiv_bad0) nf_nil
  · exact ref_of hL (mem_at (k := 9) rfl) (r_op (y1 := nOdd) (y2 := nSz) hi ty (fdiv_bad no)) nf_nil
  · exact ref_of hL (mem_at (k := 10) rfl) (r_op (y1 := nOdd) (y2 := nSz) hi ty (rsh_bad no)) nf_nil
  · exact ref_of hL (mem_at (k := 11) rfl) (r_op (y1 := nOdd) (y2 := nSz) hi ty (lsh_bad no)) nf_nil
  · exact ref_of hL (mem_at (k := 12) rfl) (r_me (y1 := nLow) (y2 := nSz) (m := "signs") rfl hi (signs_bad1 hlo)) nf_nil
  · exact ref_of hL (mem_at (k := 13) rfl) (r_me2 (y1 := nLow) (y2 := nOdd) (y3 := nSz) (m := "signs") rfl hi (signs_bad1 hlo)) nf_nil
  · exact ref_of hL (mem_at (k := 14) rfl) (r_me (y1 := nOdd) (y2 := nSz) (m := "signs") rfl hi (signs_bad2 no)) nf_nil
  · refine ref_of hL (mem_at (k := 15) rfl) (r_me3 (y1 := nN) (y2 := nSz) (y3 := nTx) (m := "signs") rfl hi ?_) nf_nil
    rcases tx with ⟨a, b⟩ | ⟨k, rfl, hk⟩
    · exact signs_bad3 (by omega) b a
    · exact signs_bad4 (by omega) hk
  · exact ref_of hL (mem_at (k := 16) rfl) (r_kw (y1 := nLow) (y2 := nSz) (m := "signs") rfl hi (signs_bad4 (by decide) hlo)) nf_nil
  · exact ref_of hL (mem_at (k := 17) rfl) (r_me (y1 := nOdd) (y2 := nSz) (m := "least_from") rfl hi (least_bad no)) nf_nil
theorem all_ak (ho : o ∈ odds) (hw : Ak 3 w) (hn : 0 < n) (ht : t ∈ txs n) : ∀ p ∈ lamsL o w t lo, Ak 3 p.2.2 := by
  have ao := (odds_ak ho).up (show 2 ≤ 3 by omega)
  obtain ⟨at_, _⟩ := txs_ok hn ht
  intro p hp
  simp only [lamsL, List.mem_cons, List.not_mem_nil, or_false] at hp
  rcases hp with rfl | rfl | rfl | rfl | rfl | rfl | rfl | rfl | rfl | rfl | rfl | rfl | rfl | rfl | rfl | rfl | rfl | rfl <;> first | exact ao | exact hw | exact at_ | exact .at_ rfl
end
def lS (sc : D) (ag row sz a b : Slot) (st : List Ob) : DL.S := ⟨[.imm sc, .imm (.loc 0), ag, row, sz, a, b], st⟩
def lpB (fr : Fn) : MS := mIfS (mNotT (mTru (mCall fr (mCons (mVar 5) (mCons (mVar 6) mNil))))) (mRet (mC (.bl false))) mPass
theorem lpB_eq {fr : Fn} {sc d x : D} {ag row sz : Slot} {st st' : List Ob} (h : fr [x, d] st = .ok (.bl true) st') : lpB fr (lS sc ag row sz (.imm x) (.imm d) st) = .ok .nx (lS sc ag row sz (.imm x) (.imm d) st') := by
  simp [lpB, lS, mIfS, mNotT, mTru, mCall, mCons, mNil, mVar, bnd, DL.ret, h, outR, tru, optB, mPass]
theorem loop_ok {lam : Nat → Lam} {i : Nat} {r o w t : D} {lo n : Int} {sc : D} {ag row sz : Slot} (hL : LamI lam) (ho : o ∈ odds) (hw : NL w) (aw : Ak 3 w) (hlo : lo < 0) (hn : 0 < n) (ht : t ∈ txs n) :
    ∀ (L : List Pr) (N : Nat) (st : List Ob) (a b : Slot), (∀ p ∈ L, p ∈ lamsL o w t lo) → st[i]? = some (szO r) → (∀ (m : Nat) p, L[m]? = some p → st[N + m]? = some (.clo (lam p.1) (enK i o w t lo n p.1))) →
      ∃ more a' b', fo (gTp 2 (gsCons (gNm 5) (gsCons (gNm 6) gsNil))) (lpB (f__law_refuses lam)) (prs N L) (lS sc ag row sz a b st) = .ok .nx (lS sc ag row sz a' b' (st ++ more)) ∧ noFun more := by
  intro L
  induction L with
  | nil => intro N st a b _ _ _; exact ⟨[], a, b, by rw [List.append_nil]; exact fo_nil, nf_nil⟩
  | cons p L ih =>
    intro N st a b hm hi hc
    have hp := hm p List.mem_cons_self
    have hi2 := hide_at hi rfl
    obtain ⟨more, e, nf⟩ := all_ref (st := hide st) (r := r) hL hi2 ho hw hlo hn ht p hp
    have c := clo_exc (hc 0 p rfl) e
    have e2 := ref_ok c (all_ak ho aw hn ht p hp) (by omega)
    obtain ⟨more2, a', b', e3, nf2⟩ := ih (N + 1) (st ++ more) (.imm (.loc N)) (.imm p.2.2) (fun q hq => hm q (List.mem_cons_of_mem _ hq)) (by
      rw [List.getElem?_append_left (List.getElem?_eq_some_iff.mp hi).1]; exact hi) (fun m q hq => by
      have z := hc (m + 1) q (by simpa using hq)
      rw [show N + 1 + m = N + (m + 1) by omega, List.getElem?_append_left (List.getElem?_eq_some_iff.mp z).1]
      exact z)
    refine ⟨more ++ more2, a', b', ?_, fun x hx => (List.mem_append.mp hx).elim (nf x) (nf2 x)⟩
    rw [← List.append_assoc]
    have g : gTp 2 (gsCons (gNm 5) (gsCons (gNm 6) gsNil)) (.tup [.loc N, p.2.2]) = some [(5, .loc N), (6, p.2.2)] := rfl
    have q : (lS sc ag row sz a b st).puts [(5, .loc N), (6, p.2.2)] = lS sc ag row sz (.imm (.loc N)) (.imm p.2.2) st := rfl
    show fo _ _ (.tup [.loc N, p.2.2] :: prs (N + 1) L) _ = _
    rw [fo_step g (by rw [q]; exact lpB_eq e2)]
    exact e3
end RF
namespace RF
open PySem PySem.Spec L2 DL LC SP SZ SG SX
theorem signs_is : f_signs_of = SG.f_signsO := rfl
theorem signs_gen {fs : Fn} {i : Nat} {r : D} {l : List D} {st : List Ob} (hi : st[i]? = some (szO r)) (h : fs [r, .int 3, .int 3] st = .ok (.lst l) st) :
    mRet (mFz (mCallF fs (mCons (mFld "Size" "row" (mVar 0)) (mCons (mVar 1) (mCons (mVar 2) mNil))))) ⟨[.imm (.loc i), .imm (.int 3), .imm (.int 3)], st⟩ = .ok (.rt (.lst l)) ⟨[.imm (.loc i), .imm (.int 3), .imm (.int 3)], st⟩ := by
  have e0 : mFld "Size" "row" (mVar 0) ⟨[.imm (.loc i), .imm (.int 3), .imm (.int 3)], st⟩ = .ok r ⟨[.imm (.loc i), .imm (.int 3), .imm (.int 3)], st⟩ := by
    have e := ins_at hi (sl := [.imm (.loc i), .imm (.int 3), .imm (.int 3)])
    have e1 : mVar 0 ⟨[.imm (.loc i), .imm (.int 3), .imm (.int 3)], st⟩ = .ok (.loc i) ⟨[.imm (.loc i), .imm (.int 3), .imm (.int 3)], st⟩ := rfl
    unfold mFld
    rw [bnd_of e1]
    simp only [e]
    rfl
  have e1 : mVar 1 ⟨[.imm (.loc i), .imm (.int 3), .imm (.int 3)], st⟩ = .ok (.int 3) ⟨[.imm (.loc i), .imm (.int 3), .imm (.int 3)], st⟩ := rfl
  have e2 : mVar 2 ⟨[.imm (.loc i), .imm (.int 3), .imm (.int 3)], st⟩ = .ok (.int 3) ⟨[.imm (.loc i), .imm (.int 3), .imm (.int 3)], st⟩ := rfl
  have e3 := SX.cons_of e0 (SX.cons_of e1 (SX.cons_of e2 SX.nil_of))
  have e4 : mCallF fs (mCons (mFld "Size" "row" (mVar 0)) (mCons (mVar 1) (mCons (mVar 2) mNil))) ⟨[.imm (.loc i), .imm (.int 3), .imm (.int 3)], st⟩ = .ok l ⟨[.imm (.loc i), .imm (.int 3), .imm (.int 3)], st⟩ := by
    unfold mCallF
    rw [bnd_of e3]
    show outL _ (fs [r, .int 3, .int 3] st) = _
    rw [h]; rfl
  unfold mRet
  rw [bnd_of (SX.fz_of e4)]
  rfl
theorem signs_one {i : Nat} {a : List Int} {st : List Ob} (hi : st[i]? = some (szT a)) (la : a.length ≤ 5) (sa : ∀ x ∈ a, sm 300 x) : ∃ d, f_Size_signs [.loc i, .int 3, .int 3] st = .ok (.lst [d]) st := by
  have s3 : sm 300 (3 : Int) := sm_mono (sm_lt (b := 10) (by decide) (by decide)) (by omega)
  have ch : Ch (rv a) (fun _ => True) (some 3) 3 [(3, some 3, sgn (rv a 3))] := .last (Int.le_refl _) trivial fun n h1 h2 => by
    have e : n = 3 := Int.le_antisymm h2 h1
    rw [e]
  have q := SG.signs_eq (st := st) (e := some 3) (RowD.tup a) la (fun x hx => sm_mono (sa x hx) (by omega)) (Int.le_refl 3) s3 (fun h e => by cases e; exact s3) ch trivial
  refine ⟨pD (3, some 3, sgn (rv a 3)), ?_⟩
  show endR (m_Size_signs ⟨[.imm (.loc i), .imm (.int 3), .imm (.int 3)], st⟩) = _
  have g := (pass2m (fw := f_is_whole) (i := 1) (A := raise 1) (s := ⟨[.imm (.loc i), .imm (.int 3), .imm (.int 3)], st⟩) (R := mSeq (mN (mIfS (mAndT (mBl (mBin fNotN (mVar 2) (mC .non))) (mOrT (nw f_is_whole 2) (mBl (mBin iLt (mVar 2) (mVar 1))))) (raise 2) mPass)) (mRet (mFz (mCallF f_signs_of (mCons (mFld "Size" "row" (mVar 0)) (mCons (mVar 1) (mCons (mVar 2) mNil))))))) rfl (w_int 3 st) (ltF (i := 1) (k := 3) (m := 0) rfl (by decide))).trans
    ((pass3 (fw := f_is_whole) (i := 2) (A := raise 2) (R := mRet (mFz (mCallF f_signs_of (mCons (mFld "Size" "row" (mVar 0)) (mCons (mVar 1) (mCons (mVar 2) mNil)))))) (notN_eq (b := true) rfl rfl) rfl (w_int 3 st) ((ltv_eq (i := 2) (j := 1) (k := 3) (m := 3) rfl rfl).trans rfl)).trans (signs_gen hi (by rw [signs_is]; exact q)))
  rw [show m_Size_signs ⟨[.imm (.loc i), .imm (.int 3), .imm (.int 3)], st⟩ = _ from g]
  rfl
section
variable {sc x y : D} {ag row sz a b : Slot} {st s1 : List Ob}
theorem t1 {fr : Fn} (h : fr [.loc 0, .int 4] st = .ok x s1) : mSet 3 (mCall fr (mCons (mVar 1) (mCons (mC (.int 4)) mNil))) (lS sc ag row sz a b st) = .ok .nx (lS sc ag (.imm x) sz a b s1) := by
  simp [lS, mSet, mCall, mCons, mNil, mVar, mC, bnd, DL.ret, h, outR, S.put]
theorem t2 {fi : Fn} (h : fi [.loc st.length, x] (st ++ [.ins "Size" []]) = .ok .non s1) : mSet 4 (mMake "Size" fi (mCons (mVar 3) mNil)) (lS sc ag (.imm x) sz a b st) = .ok .nx (lS sc ag (.imm x) (.imm (.loc st.length)) a b s1) := by
  simp [lS, mSet, mMake, mCons, mNil, mVar, bnd, DL.ret, h, S.put]
theorem t3 {fc : Fn} {i : Nat} {ds : List D} (h : fc [.loc 0, .loc i] st = .ok (.lst ds) s1) : mIt (mCall fc (mCons (mVar 1) (mCons (mVar 4) mNil))) (lS sc ag row (.imm (.loc i)) a b st) = .ok ds (lS sc ag row (.imm (.loc i)) a b s1) := by
  simp [lS, mIt, mCall, mCons, mNil, mVar, bnd, DL.ret, h, outR, itD]
theorem notT {m : ME} {s s' : DL.S} {c : Bool} (h : m s = .ok (.bl c) s') : mNotT (mTru m) s = .ok (!c) s' := by
  simp [mNotT, mTru, bnd, h, tru, optB, DL.ret]
theorem t4 {fs fc fd : Fn} {i j : Nat} {z : D} {r : D} {R : MS} (hi : st[i]? = some (szO r)) (h1 : fc [x] st = .ok z st) (h2 : fs [.loc i, z] st = .ok (.bl true) st) (h3 : fd [.loc i, .int 1] st = .ok (.loc j) s1) (h4 : fc [x] s1 = .ok z s1) (h5 : fs [.loc j, z] s1 = .ok (.bl true) s1) :
    mIfS (mOrT (mNotT (mTru (mCall fs (mCons (mVar 4) (mCons (mCall fc (mCons (mVar 3) mNil)) mNil))))) (mNotT (mTru (mCall fs (mCons (mOpI "Size" fd (mVar 4) (mC (.int 1))) (mCons (mCall fc (mCons (mVar 3) mNil)) mNil)))))) R mPass (lS sc ag (.imm x) (.imm (.loc i)) a b st) = .ok .nx (lS sc ag (.imm x) (.imm (.loc i)) a b s1) := by
  have v4 : ∀ st, mVar 4 (lS sc ag (.imm x) (.imm (.loc i)) a b st) = .ok (.loc i) (lS sc ag (.imm x) (.imm (.loc i)) a b st) := fun _ => rfl
  have v3 : ∀ st, mVar 3 (lS sc ag (.imm x) (.imm (.loc i)) a b st) = .ok x (lS sc ag (.imm x) (.imm (.loc i)) a b st) := fun _ => rfl
  have c1 : mCall fc (mCons (mVar 3) mNil) (lS sc ag (.imm x) (.imm (.loc i)) a b st) = .ok z (lS sc ag (.imm x) (.imm (.loc i)) a b st) := SX.call_same (SX.cons_of (v3 st) SX.nil_of) h1
  have c2 := SX.call_same (f := fs) (SX.cons_of (v4 st) (SX.cons_of c1 SX.nil_of)) h2
  have o1 : mOpI "Size" fd (mVar 4) (mC (.int 1)) (lS sc ag (.imm x) (.imm (.loc i)) a b st) = .ok (.loc j) (lS sc ag (.imm x) (.imm (.loc i)) a b s1) := SX.opI_of (v4 st) rfl hi h3
  have c3 : mCall fc (mCons (mVar 3) mNil) (lS sc ag (.imm x) (.imm (.loc i)) a b s1) = .ok z (lS sc ag (.imm x) (.imm (.loc i)) a b s1) := SX.call_same (SX.cons_of (v3 s1) SX.nil_of) h4
  have c4 := SX.call_same (f := fs) (SX.cons_of o1 (SX.cons_of c3 SX.nil_of)) h5
  refine (if_f ((or_f (notT c2)).trans (notT c4))).trans rfl
theorem t5 {fs fc fd fg : Fn} {i j : Nat} {z u : D} {r : D} {R : MS} (hi : st[i]? = some (szO r)) (h3 : fd [.loc i, .int 0] st = .ok (.loc j) s1) (h4 : fc [x] s1 = .ok z s1) (h5 : fs [.loc j, z] s1 = .ok (.bl true) s1) (hi2 : s1[i]? = some (szO r)) (h6 : fg [.loc i, .int 3, .int 3] s1 = .ok (.lst [u]) s1) :
    mIfS (mOrT (mNotT (mTru (mCall fs (mCons (mOpI "Size" fd (mVar 4) (mC (.int 0))) (mCons (mCall fc (mCons (mVar 3) mNil)) mNil))))) (mBl (mBin fNe (mUn fLen (mMeth "Size" "signs" fg [] (mVar 4) (mCons (mC (.int 3)) (mCons (mC (.int 3)) mNil)))) (mC (.int 1))))) R mPass (lS sc ag (.imm x) (.imm (.loc i)) a b st) = .ok .nx (lS sc ag (.imm x) (.imm (.loc i)) a b s1) := by
  have v4 : ∀ st, mVar 4 (lS sc ag (.imm x) (.imm (.loc i)) a b st) = .ok (.loc i) (lS sc ag (.imm x) (.imm (.loc i)) a b st) := fun _ => rfl
  have v3 : ∀ st, mVar 3 (lS sc ag (.imm x) (.imm (.loc i)) a b st) = .ok x (lS sc ag (.imm x) (.imm (.loc i)) a b st) := fun _ => rfl
  have o1 : mOpI "Size" fd (mVar 4) (mC (.int 0)) (lS sc ag (.imm x) (.imm (.loc i)) a b st) = .ok (.loc j) (lS sc ag (.imm x) (.imm (.loc i)) a b s1) := SX.opI_of (v4 st) rfl hi h3
  have c3 : mCall fc (mCons (mVar 3) mNil) (lS sc ag (.imm x) (.imm (.loc i)) a b s1) = .ok z (lS sc ag (.imm x) (.imm (.loc i)) a b s1) := SX.call_same (SX.cons_of (v3 s1) SX.nil_of) h4
  have c4 := SX.call_same (f := fs) (SX.cons_of o1 (SX.cons_of c3 SX.nil_of)) h5
  have m1 : mMeth "Size" "signs" fg [] (mVar 4) (mCons (mC (.int 3)) (mCons (mC (.int 3)) mNil)) (lS sc ag (.imm x) (.imm (.loc i)) a b s1) = .ok (.lst [u]) (lS sc ag (.imm x) (.imm (.loc i)) a b s1) := by
    have e := ins_at hi2 (sl := (lS sc ag (.imm x) (.imm (.loc i)) a b s1).sl)
    have e' : insAt "Size" (lS sc ag (.imm x) (.imm (.loc i)) a b s1) (.loc i) = some (i, [(("row" : Str), r)]) := e
    unfold mMeth
    rw [bnd_of (v4 s1)]
    simp only [e']
    rw [if_pos (show ([(("row" : Str), r)] : List (Str × D)).lookup ("signs" : Str) = none from rfl)]
    have e3 : mCons (mC (.int 3)) (mCons (mC (.int 3)) mNil) (lS sc ag (.imm x) (.imm (.loc i)) a b s1) = .ok [.int 3, .int 3] (lS sc ag (.imm x) (.imm (.loc i)) a b s1) := rfl
    rw [bnd_of e3]
    show outR _ (fg [.loc i, .int 3, .int 3] s1) = _
    rw [h6]; rfl
  have m2 : mUn fLen (mMeth "Size" "signs" fg [] (mVar 4) (mCons (mC (.int 3)) (mCons (mC (.int 3)) mNil))) (lS sc ag (.imm x) (.imm (.loc i)) a b s1) = .ok (.int 1) (lS sc ag (.imm x) (.imm (.loc i)) a b s1) := by
    unfold mUn
    rw [bnd_of m1]
    rfl
  have m3 : mBl (mBin fNe (mUn fLen (mMeth "Size" "signs" fg [] (mVar 4) (mCons (mC (.int 3)) (mCons (mC (.int 3)) mNil)))) (mC (.int 1))) (lS sc ag (.imm x) (.imm (.loc i)) a b s1) = .ok false (lS sc ag (.imm x) (.imm (.loc i)) a b s1) := by
    have e := SZ.bin_of m2 (show mC (.int 1) (lS sc ag (.imm x) (.imm (.loc i)) a b s1) = .ok (.int 1) _ from rfl) (show fNe (.int 1) (.int 1) = some (.bl false) from rfl)
    unfold mBl
    rw [bnd_of e]
    rfl
  exact (if_f ((or_f (notT c4)).trans m3)).trans rfl
end
theorem cutS {r : List Int} {st : List Ob} : f__law_cut [.lst (r.map .int)] st = .ok (.tup ((trm r).map .int)) st := SX.cutL'
theorem fdiv1 (a : List Int) : (a.map fun x => x.fdiv 1) = a := by
  induction a with
  | nil => rfl
  | cons x a ih => simp [ih]
theorem divs1 (a : List Int) : divs a 1 = true := by
  rw [divs_iff]
  intro x _
  exact Int.fmod_one x
noncomputable def turnM (lam : Nat → Lam) : MS := (mSeq (mSet 3 (mCall f__law_row (mCons (mVar 1) (mCons (mC (.int 4)) mNil))))
  (mSeq (mSet 4 (mMake "Size" f_Size___init__ (mCons (mVar 3) mNil)))
  (mSeq (mFor (mIt (mCall (f__law_cases lam) (mCons (mVar 1) (mCons (mVar 4) mNil)))) (gTp 2 (gsCons (gNm 5) (gsCons (gNm 6) gsNil))) (lpB (f__law_refuses lam)))
  (mSeq (mIfS (mOrT (mNotT (mTru (mCall f__law_size_is (mCons (mVar 4) (mCons (mCall f__law_cut (mCons (mVar 3) mNil)) mNil))))) (mNotT (mTru (mCall f__law_size_is (mCons (mOpI "Size" f_Size___floordiv__ (mVar 4) (mC (.int 1))) (mCons (mCall f__law_cut (mCons (mVar 3) mNil)) mNil)))))) (mRet (mC (.bl false))) mPass)
  (mIfS (mOrT (mNotT (mTru (mCall f__law_size_is (mCons (mOpI "Size" f_Size___rshift__ (mVar 4) (mC (.int 0))) (mCons (mCall f__law_cut (mCons (mVar 3) mNil)) mNil))))) (mBl (mBin fNe (mUn fLen (mMeth "Size" "signs" f_Size_signs [] (mVar 4) (mCons (mC (.int 3)) (mCons (mC (.int 3)) mNil)))) (mC (.int 1))))) (mRet (mC (.bl false))) mPass)))))
noncomputable def lawM (lam : Nat → Lam) : MS := mSeq (mSet 1 (mCall f__law_pen (mCons (mVar 0) mNil))) (mSeq (mFor (mRng rng1 (mCons (mBin fAdd (mC (.int 2)) (mMin2 (mCons (mC (.int 3)) (mCons (mUn fLen (mLook 0)) mNil)))) mNil)) (gNm 2) (turnM lam)) (mRet (mC (.bl true))))
theorem m_law_is (lam : Nat → Lam) : m_law lam = lawM lam := rfl
theorem nf_app {a b : List Ob} (h1 : noFun a) (h2 : noFun b) : noFun (a ++ b) := fun x hx => (List.mem_append.mp hx).elim (h1 x) (h2 x)
theorem nf_clos {lam : Nat → Lam} {i : Nat} {o w t : D} {lo n : Int} : noFun (clos lam i o w t lo n) := fun x hx => by
  obtain ⟨k, _, rfl⟩ := List.mem_map.mp hx
  rfl
theorem prs_at {L : List Pr} {o w t : D} {lo : Int} (e : L = lamsL o w t lo) {m : Nat} {p : Pr} (h : L[m]? = some p) : p.1 = m ∧ m < 18 := by
  subst e
  have hl : m < 18 := (List.getElem?_eq_some_iff.mp h).1
  have e1 : ((lamsL o w t lo).map (·.1))[m]? = some p.1 := by rw [List.getElem?_map, h]; rfl
  have e2 : (lamsL o w t lo).map (·.1) = List.range 18 := rfl
  rw [e2, List.getElem?_range hl] at e1
  exact ⟨(Option.some.inj e1).symm, hl⟩
theorem turn_ok {lam : Nat → Lam} (hL : LamI lam) {sc : D} {ag row sz a b : Slot} {rs st : List Ob} {B : Nat} (hp : PenT B rs st) (hB : B + 200 < 2 ^ 30) (hn : noFun rs) :
    ∃ row' sz' a' b' rs' st', turnM lam (lS sc ag row sz a b st) = .ok .nx (lS sc ag row' sz' a' b' st') ∧ PenT (B + 200) rs' st' ∧ noFun rs' := by
  obtain ⟨l, s1, e1, sl, ll, p1⟩ := lrow4 hp (by omega)
  have S1 := t1 (sc := sc) (ag := ag) (row := row) (sz := sz) (a := a) (b := b) e1
  have S2 := t2 (sc := sc) (ag := ag) (sz := sz) (a := a) (b := b) (newLN (r := l) (st := s1) (by omega))
  have la : (trm l).length ≤ 5 := Nat.le_trans (trm_len l) (by omega)
  have sa := SX.trm_sm sl
  have ta := trm_trm l
  have ec := fun st => cutS (r := l) (st := st)
  generalize trm l = r at S2 la sa ta ec
  have p2 := p1.app [szT r]
  have i2 : (s1 ++ [szT r])[s1.length]? = some (szT r) := by simp
  have n2 : noFun (rs ++ [szT r]) := nf_app hn fun x hx => by rw [List.mem_singleton.mp hx]; rfl
  generalize rs ++ [szT r] = rs2 at p2 n2
  generalize s1 ++ [szT r] = s2 at p2 i2 S2
  generalize s1.length = i at i2 S2
  obtain ⟨o, w, t, lo, n, s3, e3, p3, mo, nw, aw, hlo, hn0, mt⟩ := cases_ok hL (i := i) p2 (by omega) n2
  have i0 : ∃ j, i = j + 1 ∧ rs2[j]? = some (szT r) := by
    obtain ⟨cs, bb, rr, rfl, _⟩ := p2
    cases i with
    | zero => cases i2
    | succ j => exact ⟨j, rfl, i2⟩
  have i3 : s3[i]? = some (szT r) := by
    obtain ⟨j, rfl, hj⟩ := i0
    rw [p3.at]; exact hj
  have i4 : (s3 ++ clos lam i o w t lo n)[i]? = some (szT r) := SX.at_app i3
  have S3 := t3 (sc := sc) (ag := ag) (row := .imm (.lst (l.map .int))) (a := a) (b := b) e3
  obtain ⟨more, a', b', e4, nf4⟩ := loop_ok (sc := sc) (ag := ag) (row := .imm (.lst (l.map .int))) (sz := .imm (.loc i)) hL mo nw aw hlo hn0 mt (lamsL o w t lo) s3.length (s3 ++ clos lam i o w t lo n) a b (fun _ h => h) i4 fun m p h => by
    obtain ⟨q1, q2⟩ := prs_at rfl h
    rw [List.getElem?_append_right (by omega), show s3.length + m - s3.length = m by omega]
    unfold clos
    rw [List.getElem?_map, List.getElem?_range q2, q1]
    rfl
  have S4 := SP.for_of S3 e4
  have p4 := (p3.app (clos lam i o w t lo n)).app more
  have n4 : noFun (rs2 ++ clos lam i o w t lo n ++ more) := nf_app (nf_app n2 nf_clos) nf4
  have i5 : (s3 ++ clos lam i o w t lo n ++ more)[i]? = some (szT r) := SX.at_app i4
  generalize rs2 ++ clos lam i o w t lo n ++ more = rs5 at p4 n4
  generalize s3 ++ clos lam i o w t lo n ++ more = s5 at p4 i5 S4
  have d1 := SX.fd_yes (k := 1) i5 (by decide) (fun x => jDiv_int (by decide) (.inl (by decide))) (by omega) (divs1 r)
  rw [fdiv1, ta] at d1
  have j5 : (s5 ++ [szT r])[s5.length]? = some (szT r) := by simp
  have S5 := t4 (sc := sc) (ag := ag) (a := a') (b := b') (R := mRet (mC (.bl false))) i5 (ec _) (sizeis_eq i5 (by omega)) d1 (ec _) (sizeis_eq j5 (by omega))
  have p5 := p4.app [szT r]
  have n5 : noFun (rs5 ++ [szT r]) := nf_app n4 fun x hx => by rw [List.mem_singleton.mp hx]; rfl
  have i6 : (s5 ++ [szT r])[i]? = some (szT r) := SX.at_app i5
  generalize rs5 ++ [szT r] = rs6 at p5 n5
  generalize s5 ++ [szT r] = s6 at p5 i6 S5
  have d2 := SX.rsh_op (k := 0) (A := 300) i6 (sm_mono (sm_lt (b := 10) (by decide) (by decide)) (by omega)) (by omega) (by omega) sa
  rw [show (-0 : Int) = 0 from rfl, mvR0, ta] at d2
  have j6 : (s6 ++ [szT r])[s6.length]? = some (szT r) := by simp
  have i7 : (s6 ++ [szT r])[i]? = some (szT r) := SX.at_app i6
  obtain ⟨u, e7⟩ := signs_one i7 la sa
  have S6 := t5 (sc := sc) (ag := ag) (a := a') (b := b') (R := mRet (mC (.bl false))) i6 d2 (ec _) (sizeis_eq j6 (by omega)) i7 e7
  have p6 := p5.app [szT r]
  have n6 : noFun (rs6 ++ [szT r]) := nf_app n5 fun x hx => by rw [List.mem_singleton.mp hx]; rfl
  refine ⟨.imm (.lst (l.map .int)), .imm (.loc i), a', b', rs6 ++ [szT r], s6 ++ [szT r], ?_, p6.mono (by omega), n6⟩
  unfold turnM
  rw [seq_nx S1, seq_nx S2, seq_nx S4, seq_nx S5]
  exact S6
theorem turns {lam : Nat → Lam} (hL : LamI lam) (is : List D) : ∀ {sc : D} {ag row sz a b : Slot} {rs st : List Ob} {B : Nat}, PenT B rs st → B + 200 * is.length < 2 ^ 30 → noFun rs → ∃ s', fo (gNm 2) (turnM lam) is (lS sc ag row sz a b st) = .ok .nx s' := by
  induction is with
  | nil => exact fun _ _ _ => ⟨_, fo_nil⟩
  | cons d is ih =>
    intro sc ag row sz a b rs st B hp hB hn
    simp only [List.length_cons] at hB
    obtain ⟨row', sz', a', b', rs', st', e, p', n'⟩ := turn_ok hL (sc := sc) (ag := .imm d) (row := row) (sz := sz) (a := a) (b := b) hp (by omega) hn
    obtain ⟨s', e'⟩ := ih (sc := sc) (ag := .imm d) (row := row') (sz := sz') (a := a') (b := b') p' (by omega) n'
    have q : (lS sc ag row sz a b st).puts [(2, d)] = lS sc (.imm d) row sz a b st := rfl
    exact ⟨s', by rw [fo_step gnm (by rw [q]; exact e)]; exact e'⟩
theorem start15 {fp : Fn} {sc : D} {st0 st : List Ob} (h1 : fp [sc] st0 = .ok (.loc 0) st) : mSet 1 (mCall fp (mCons (mVar 0) mNil)) ⟨slots 7 [sc], st0⟩ = .ok .nx (lS sc .emp .emp .emp .emp .emp st) := by
  simp [slots, mSet, mCall, mCons, mNil, mVar, bnd, DL.ret, h1, outR, S.put, lS]
theorem it15 {ns : List D} {R : List D} {st : List Ob} {f9 : List D → Option (List D)} (h : f9 [.int (2 + (if (ns.length : Int) < 3 then (ns.length : Int) else 3))] = some R) : mRng f9 (mCons (mBin fAdd (mC (.int 2)) (mMin2 (mCons (mC (.int 3)) (mCons (mUn fLen (mLook 0)) mNil)))) mNil) (lS (.kl ns) .emp .emp .emp .emp .emp st) = .ok R (lS (.kl ns) .emp .emp .emp .emp .emp st) := by
  simp [lS, mRng, mCons, mNil, mBin, fAdd, mC, mMin2, mUn, fLen, itD, mLook, cur, bnd, DL.ret, lift, h]
theorem rng15 (n : Nat) : ∃ k : Nat, k ≤ 5 ∧ rng1 [.int (2 + (if (n : Int) < 3 then (n : Int) else 3))] = some (intsD 0 k) := by
  by_cases h : (n : Int) < 3
  · rw [if_pos h]
    exact ⟨2 + n, by omega, by rw [show (2 : Int) + n = ((2 + n : Nat) : Int) by omega]; exact rng_nat (by omega)⟩
  · rw [if_neg h]
    exact ⟨5, by omega, rng_nat (n := 5) (by omega)⟩
theorem lawM_ok {lam : Nat → Lam} (hL : LamI lam) (ns : List Int) (h : ns.length ≤ 63) : ∃ st, f_law lam [.kl (ns.map .int)] [] = .ok (.bl true) st := by
  have hp : PenT 0 [] [.dct (penL ns 0 0)] := ⟨ns, 0, 0, rfl, by omega, by omega, by omega, by omega⟩
  obtain ⟨k, hk, hr⟩ := rng15 (ns.map D.int).length
  have it := it15 (ns := ns.map D.int) (st := [.dct (penL ns 0 0)]) hr
  obtain ⟨s', k4⟩ := turns hL (intsD 0 k) (sc := .kl (ns.map .int)) (ag := .emp) (row := .emp) (sz := .emp) (a := .emp) (b := .emp) hp (by rw [ints_len]; omega) nf_nil
  refine ⟨s'.st, ?_⟩
  show endR (m_law lam ⟨slots 7 [.kl (ns.map .int)], []⟩) = _
  rw [m_law_is, lawM, seq_nx (start15 (pen_eq ns h)), seq_nx (SP.for_of it k4), ret_true]
end RF
namespace K15
open PySem PySem.Spec DL
/-- where the body of a lambda stands -/
def keyE : Expr → Nat
  | .Call _ _ _ p => p.line
  | .BinOp _ _ _ p => p.line
  | _ => 0
theorem lamI : RF.LamI lam__law_cases := by
  refine ⟨?_, by kernel_rfl⟩
  have h : (((List.range 18).map lam__law_cases).map fun l : Lam => keyE l.body).Nodup := by decide +kernel
  exact (List.pairwise_map.mp h).imp fun hne e => hne (congrArg (fun l : Lam => keyE l.body) e)
theorem f_law_eq : f_law = RF.f_law lam__law_cases := rfl
theorem law_pure : ∀ ns : List Int, ns.length ≤ 63 → ∃ st, f_law [.kl (ns.map .int)] [] = .ok (.bl true) st := fun ns h => by
  rw [f_law_eq]
  exact RF.lawM_ok lamI ns h
end K15
theorem PySem.Challenge.cw_everyname_k15_sizes_refuse_what_is_wrong_holds : PySem.Challenge.rw_everyname_k15_sizes_refuse_what_is_wrong.Holds :=
  K15.holds K15.law_pure
